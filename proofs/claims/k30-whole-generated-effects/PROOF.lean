import PyProof.Rows.All
import Wide.All
import OpenK.AllK
import Wide.FinOn
import PyProof.EqAt
import PyProof.EqKinds
import PyProof.TupleCall
import KE.KDictKeyed
import KE.KDictDisplayH
import KE.SortData
import KE.DataCmp
import PyProof.ReprRoads
import PyProof.Rows.SetFrom
import PyProof.SetRoads
import HandS.ForMost
import HandS.Exc
import HandS.TryOnly
import HandS.TryMany
import HandS.ExcOwn
import HandS.WordsExc
import HandS.ExcInit
import HandS.OwnEq
import HandS.Star
import HandS.Defaults
import HandS.ClsMeth
import HandS.Property
import HandS.FStr
import HandS.TupAny
import HandS.TupMul
import HandS.IsInst
import HandS.Flow
import HandS.Wide
import HandS.Strs
import HandS.Conv
import PySem.Challenge.RW_fullqueue_k30_whole_generated_effects
import KE.GoesMore
import KE.GoesEnum
import HandS.ExcField
import KE.KExcInit
import HandS.SlotsOwn
import HandS.Walk
import HandS.CallLocal
import KE.DatumOrd
import HandS.Codes
set_option Elab.async false
set_option linter.all false
set_option maxRecDepth 100000
set_option maxHeartbeats 4000000
namespace K30
open PySem L2
def top (i : Nat) : Stmt := PySem.Challenge.pw_fullqueue_k30_whole_generated_effects.main.body.getD i (.Pass ⟨0, 0, 0, 0⟩)
abbrev sIsInt : Stmt := top 16
end K30
set_option maxHeartbeats 4000000
namespace K30
open PySem PySem.Spec PyProof.Rows L2
/-! ### data stays while the heap grows -/
mutual
theorem dp_ext {K : PySem.W.Frag} {H H' : Hp} (e : Ext H H') : ∀ (d : PyData) (v : V), Dp K H v d → Dp K H' v d
  | .none, _, h => by cases h; exact .non
  | .bool b, _, h => by cases h; exact .bl b
  | .int i, _, h => by cases h; exact .int i
  | .str x, _, h => by cases h; exact .str x
  | .list ds, _, h => by
    cases h with
    | lst hs ha => exact .lst (SqL.ext hs e) (dpAll_ext e ds _ ha)
  | .tuple ds, _, h => by
    cases h with
    | tup hs ha => exact .tup (SqT.ext hs e) (dpAll_ext e ds _ ha)
  | .dict _, _, h => by cases h
theorem dpAll_ext {K : PySem.W.Frag} {H H' : Hp} (e : Ext H H') : ∀ (ds : List PyData) (vs : List V), DpAll K H vs ds → DpAll K H' vs ds
  | [], _, h => by cases h; exact .nil
  | d :: ds, _, h => by
    cases h with
    | cons h1 h2 => exact .cons (dp_ext e d _ h1) (dpAll_ext e ds _ h2)
end
theorem dpAll_len {K : PySem.W.Frag} {H : Hp} : ∀ {vs : List V} {ds : List PyData}, DpAll K H vs ds → vs.length = ds.length
  | _, _, .nil => rfl
  | _, _, .cons _ t => by rw [List.length_cons, List.length_cons, dpAll_len t]
theorem dpAll_get {K : PySem.W.Frag} {H : Hp} : ∀ {vs : List V} {ds : List PyData} {i : Nat} {d : PyData}, DpAll K H vs ds → ds[i]? = some d → ∃ v, vs[i]? = some v ∧ Dp K H v d
  | _, _, i, d, .nil, h => by simp at h
  | _, _, 0, d, .cons a _, h => by simp at h; subst h; exact ⟨_, rfl, a⟩
  | _, _, i + 1, d, .cons _ t, h => by
    obtain ⟨v, h1, h2⟩ := dpAll_get (i := i) (d := d) t (by simpa using h)
    exact ⟨v, by simpa using h1, h2⟩
theorem dpAll_app {K : PySem.W.Frag} {H : Hp} : ∀ {vs ws : List V} {ds es : List PyData}, DpAll K H vs ds → DpAll K H ws es → DpAll K H (vs ++ ws) (ds ++ es)
  | _, _, _, _, .nil, b => b
  | _, _, _, _, .cons a t, b => .cons a (dpAll_app t b)
theorem dpAll_ints {K : PySem.W.Frag} {H : Hp} : ∀ (ns : List Int), DpAll K H (ns.map V.int) (ns.map PyData.int)
  | [] => .nil
  | n :: ns => .cons (.int n) (dpAll_ints ns)
theorem dp_upd {K : PySem.W.Frag} {H : Hp} {p : Addr} {o : HO} {d : PyData} {v : V} (h : Dp K H v d) (n : H p = none) : Dp K (upd H p o) v d := dp_ext (Ext.upd n) d v h
/-! ### nested keys -/
mutual
theorem dp_key {X : Cx} {pins : List (Addr × Obj)} {σ : L2.St} {H : Hp} {s : Shared} (I : Inv X pins σ H s) : ∀ (k : NestedKey) (v : V) (u : Value), Dp X.K H v k.data → RelV v u → NestedIs s.heap k u
  | .none, _, _, h, r => by
    rw [NestedKey.data] at h
    cases h
    cases r
    exact .none
  | .num i, _, _, h, r => by
    rw [NestedKey.data] at h
    cases h
    obtain ⟨t, rfl⟩ := r
    exact .int i t
  | .text x, _, _, h, r => by
    rw [NestedKey.data] at h
    cases h
    obtain ⟨t, rfl⟩ := r
    exact .text x t
  | .tup ks, _, _, h, r => by
    rw [NestedKey.data] at h
    cases h with
    | tup hs ha =>
      cases r
      obtain ⟨its, rv, ⟨o, ho, hc, n, hd⟩, _⟩ := I.tuple hs
      exact .tup ho hc hd (by simpa using dp_keys I ks _ its ha rv)
theorem dp_keys {X : Cx} {pins : List (Addr × Obj)} {σ : L2.St} {H : Hp} {s : Shared} (I : Inv X pins σ H s) : ∀ (ks : List NestedKey) (vs : List V) (us : List Value), DpAll X.K H vs (NestedKey.datas ks) → Vals vs us → NestedAll s.heap ks us
  | [], _, _, h, r => by
    rw [NestedKey.datas] at h
    cases h
    cases r
    exact .nil
  | k :: ks, _, _, h, r => by
    rw [NestedKey.datas] at h
    cases h with
    | cons h1 h2 =>
      cases r with
      | cons r1 r2 => exact .cons (dp_key I k _ _ h1 r1) (dp_keys I ks _ _ h2 r2)
end
/-! ### a dict whose keys are nested tuples, all its values True -/
abbrev enT (P : Program) (w : World) (x : NestedKey × Addr) : DictEntry := entryOfKey (nestedKind P w) (x.1, x.2, Value.bool true)
abbrev trip (x : NestedKey × Addr) : NestedKey × Addr × Value := (x.1, x.2, Value.bool true)
def KdR (P : Program) (w : World) (h : Heap) (d : Addr) (xs : List (NestedKey × Addr)) : Prop :=
  (d == sysModules) = false ∧ ∃ o es ep, h.get? d = some o ∧ o.ExactDict ∧ o.data = .dict es ep ∧ es.toList = xs.map (enT P w) ∧ (xs.map (·.1)).Nodup
def KdO (P : Program) (w : World) (d : Addr) (xs : List (NestedKey × Addr)) : HO := .ext fun h => KdR P w h d xs
theorem map_trip (xs : List (NestedKey × Addr)) : (xs.map trip).map (·.1) = xs.map (·.1) := by simp [Function.comp_def]
theorem KdR.dict {P : Program} {w : World} {h : Heap} {d : Addr} {xs : List (NestedKey × Addr)} (r : KdR P w h d xs) (k : ∀ x ∈ xs, (nestedKind P w).is h x.1 x.2) : h.DictOfH (nestedKind P w) d (xs.map trip) := by
  obtain ⟨_, o, es, ep, ho, hx, hd, he, hn⟩ := r
  refine ⟨o, es, ep, ho, hx, hd, by rw [he, List.map_map] <;> rfl, fun x hx => ?_, by rw [map_trip]; exact hn⟩
  obtain ⟨y, hy, rfl⟩ := List.mem_map.mp hx
  exact k y hy
theorem KdR.of {P : Program} {w : World} {h : Heap} {d : Addr} {xs : List (NestedKey × Addr)} (b : (d == sysModules) = false) (r : h.DictOfH (nestedKind P w) d (xs.map trip)) : KdR P w h d xs := by
  obtain ⟨o, es, ep, ho, hx, hd, he, hk, hn⟩ := r
  exact ⟨b, o, es, ep, ho, hx, hd, by rw [he, List.map_map] <;> rfl, by rw [map_trip] at hn; exact hn⟩
theorem kdO_ok {P : Program} {w : World} {H : Hp} {h : Heap} {d : Addr} {xs : List (NestedKey × Addr)} (r : KdR P w h d xs) : ObjOk P w H h d (KdO P w d xs) := by
  have ⟨_, o, _, _, ho, _⟩ := r
  exact ⟨r, ⟨o, ho⟩, fun h1 h2 p k => by
    obtain ⟨b, o, es, ep, ho, q⟩ := p
    exact ⟨b, o, es, ep, k o ho, q⟩⟩
theorem kdO_at {pins : List (Addr × Obj)} {X : Cx} {σ : L2.St} {H : Hp} {s : Shared} {d : Addr} {xs : List (NestedKey × Addr)} (I : Inv X pins σ H s) (h : H d = some (KdO X.prog X.w d xs)) : KdR X.prog X.w s.heap d xs := (I.hok d _ h).1
/-- each key's tuple stands -/
def Kds (K : PySem.W.Frag) (H : Hp) (xs : List (NestedKey × Addr)) : Prop := ∀ x ∈ xs, Dp K H (.ref x.2) x.1.data ∧ x.1.depth ≤ 8
theorem Kds.ext {K : PySem.W.Frag} {H H' : Hp} {xs : List (NestedKey × Addr)} (k : Kds K H xs) (e : Ext H H') : Kds K H' xs := fun x hx => ⟨dp_ext e _ _ (k x hx).1, (k x hx).2⟩
theorem Kds.is {X : Cx} {pins : List (Addr × Obj)} {σ : L2.St} {H : Hp} {s : Shared} {xs : List (NestedKey × Addr)} (I : Inv X pins σ H s) (k : Kds X.K H xs) : ∀ x ∈ xs, (nestedKind X.prog X.w).is s.heap x.1 x.2 :=
  fun x hx => ⟨dp_key I x.1 (.ref x.2) _ (k x hx).1 rfl, (k x hx).2⟩
theorem atKey_trip (xs : List (NestedKey × Addr)) (k : NestedKey) : (atKey (xs.map trip) k).isSome = decide (k ∈ xs.map (·.1)) := by
  induction xs with
  | nil => rfl
  | cons x r ih =>
    rw [List.map_cons, List.map_cons]
    by_cases e : x.1 = k
    · have e1 : (atKey (trip x :: r.map trip) k) = some (x.2, Value.bool true) := by simp [atKey, List.find?_cons, e]
      rw [e1, decide_eq_true (by rw [← e]; exact List.mem_cons_self)] <;> rfl
    · have e1 : (atKey (trip x :: r.map trip) k) = atKey (r.map trip) k := by simp [atKey, List.find?_cons, e]
      rw [e1, ih]
      by_cases m : k ∈ r.map (·.1)
      · rw [decide_eq_true m, decide_eq_true (List.mem_cons_of_mem _ m)]
      · rw [decide_eq_false m, decide_eq_false]
        intro z
        rcases List.mem_cons.mp z with z | z
        · exact e z.symm
        · exact m z
section
variable {X : Cx}
/-- k in d -/
def rKdNot (K : PySem.W.Frag) (P : Program) (w : World) : R2 := fun x y H Q => ∃ a d k xs, x = .ref a ∧ y = .ref d ∧ H d = some (KdO P w d xs) ∧ Kds K H xs ∧ Dp K H (.ref a) (NestedKey.data k) ∧ k.depth ≤ 8 ∧
  Q (.bl (!decide (k ∈ xs.map (·.1)))) H
theorem op_kdNot (hu : X.A.units + 9 < cLine) : OpR X (compareOp .NotIn) (rKdNot X.K X.prog X.w) := by
  intro pins s σ H x y v u Q I rx ry h
  obtain ⟨a, d, k, xs, rfl, rfl, hd, hk, ha, hk8, q⟩ := h
  cases rx
  cases ry
  have r := kdO_at I hd
  refine notIn_keyed (knd := nestedKind X.prog X.w) (k := k) (kvs := pairsH (xs.map trip)) (by show X.A.units + 1 + 8 < cLine; omega) ⟨dp_key I k (.ref a) _ ha rfl, hk8⟩ r.1 ⟨_, r.dict (hk.is I), rfl⟩ ?_
  refine ⟨.bl _, H, I.tok _, ?_, q⟩
  show Value.bool _ = Value.bool _
  rw [valueAt_pairsH, Option.isSome_map, atKey_trip]
/-- d[k] = True, k not in it -/
def rKdSet (K : PySem.W.Frag) (P : Program) (w : World) : TSet := fun o i v H Q => ∃ d a k xs, o = .ref d ∧ i = .ref a ∧ v = .bl true ∧ H d = some (KdO P w d xs) ∧ Kds K H xs ∧ Dp K H (.ref a) (NestedKey.data k) ∧ k.depth ≤ 8 ∧ xs.length ≤ 100000 ∧
  k ∉ xs.map (·.1) ∧ Q (upd H d (KdO P w d (xs ++ [(k, a)])))
theorem set_kd (hu : X.A.units + 9 < cLine) : PSet X (rKdSet X.K X.prog X.w) := by
  intro pins s σ H o i v ov iv u Q I ro ri rv h
  obtain ⟨d, a, k, xs, rfl, rfl, rfl, hd, hk, ha, hk8, hz, hn, q⟩ := h
  cases ro
  cases ri
  cases rv
  have r := kdO_at I hd
  have hno : atKey (xs.map trip) k = none := by
    have e := atKey_trip xs k
    rw [decide_eq_false hn] at e
    exact Option.isNone_iff_eq_none.mp (by simpa using e)
  refine wpAny_setItem_heap (knd := nestedKind X.prog X.w) (k := k) (hsz := by rw [List.length_map, sizeLine_eq]; omega) (by show X.A.units + 1 + 8 < cLine; omega) ⟨dp_key I k (.ref a) _ ha rfl, hk8⟩ (r.dict (hk.is I)) fun h' hm sb => ?_
  rw [storedH_new hno] at hm
  have hm' : h'.DictOfH (nestedKind X.prog X.w) d ((xs ++ [(k, a)]).map trip) := by
    rw [List.map_append]
    exact hm
  have r' := KdR.of r.1 hm'
  have he : ∃ q, h'.get? d = some q := by
    obtain ⟨_, q, _, _, hq, _⟩ := r'
    exact ⟨q, hq⟩
  exact ⟨_, d_write I (by rw [hd]; trivial) sb he (kdO_ok r'), q⟩
/-- {k: True} -/
def tKd1 (K : PySem.W.Frag) (P : Program) (w : World) (tk : TE) : TE := fun σ H Q => ∀ p, H p = none → tk σ (upd H p (KdO P w p [])) fun x H1 => ∃ a k, x = .ref a ∧ H1 p = some (KdO P w p []) ∧ Dp K H1 (.ref a) (NestedKey.data k) ∧ k.depth ≤ 8 ∧
  Q (.ref p) (upd H1 p (KdO P w p [(k, a)]))
theorem kd_empty {P : Program} {w : World} (h : Heap) (hb : sysModules < h.objs.size) : KdR P w (h.push { cls := .type "dict", data := .dict #[] }) h.objs.size [] :=
  ⟨beq_eq_false_iff_ne.mpr (Ne.symm (Nat.ne_of_lt hb)), _, #[], 0, Heap.get?_push_size _ rfl, ⟨rfl, rfl, rfl⟩, rfl, rfl, List.nodup_nil⟩
theorem pe_kd1 {k : Expr} {tk : TE} {j : Nat} {pos p2 : Pos} (hu : X.A.units + 9 < cLine) (hk : PE X k tk) : PE X (.Dict [some k] [.Constant (.bool true) j p2] pos) (tKd1 X.K X.prog X.w tk) := by
  refine ⟨fun pins s σ H Q I q => ?_⟩
  have hn := I.hok.fresh (Nat.le_refl s.heap.objs.size)
  have I1 := I.laid (a := s.heap.objs.size) (o := KdO X.prog X.w s.heap.objs.size []) (h' := s.heap.push { cls := .type "dict", data := .dict #[] }) (t' := s.toks) (fun _ _ q => Heap.get?_push_of_some _ q) (Nat.le_refl _) (kdO_ok (kd_empty s.heap I.big))
  have hsh : (evalEachOpt [some k] X.env).zip ((evalEach [.Constant (.bool true) j p2] X.env).map fun v => do let x ← v; standAt pos; pure x) = (pairTrees [some k] [.Constant (.bool true) j p2] X.env pos).map fun p => (some p.1, p.2) := by rfl
  rw [arm_eval_Dict, hsh, dictDisplay_pairs (pairTrees [some k] [.Constant (.bool true) j p2] X.env pos) (by show _ :: _ ≠ []; exact List.cons_ne_nil _ _) (by show 1 < 17; decide)]
  refine wpAny_bind (wpAny_standAt (wpAny_bind (wpAny_subDictH (knd := nestedKind X.prog X.w) (Q := fun d s' => wpAny (model X.prog X.w) X.A (pure (Value.ref d)) (EP X pins σ Q) X.xe s') (by show X.A.units + 8 < cLine; omega) (by show 1 ≤ 15; decide) ?_)))
  refine pairTrees_cons_walk (thn (hk.run pins _ σ _ _ I1 (q _ hn)) fun u s1 ⟨x, H1, I2, rx, a, key, ex, e, hd, h8, q2⟩ => ?_)
  subst ex
  cases rx
  refine Constant_bool (pairTrees_nil_walk ?_)
  have r := kdO_at I2 e
  refine ⟨[(key, a, .bool true)], ⟨rfl, rfl, ⟨dp_key I2 key (.ref a) _ hd rfl, h8⟩, trivial⟩, r.dict (fun x hx => absurd hx (by simp)), fun h' tk' hm sb => wpAny_pure ?_⟩
  have hm1 : h'.DictOfH (nestedKind X.prog X.w) s.heap.objs.size ([(key, a)].map trip) := hm
  have r' := KdR.of r.1 hm1
  have he : ∃ q, h'.get? s.heap.objs.size = some q := by
    obtain ⟨_, q, _, _, hq, _⟩ := r'
    exact ⟨q, hq⟩
  exact ⟨.ref s.heap.objs.size, _, d_write I2 (by rw [e]; trivial) sb he (kdO_ok r'), rfl, q2⟩
end
end K30
set_option maxHeartbeats 4000000
namespace K30
open PySem PySem.Spec PyProof.Rows L2
/-! ### defs that may only be entered while no repr is under way -/
structure FnG (P : Program) (w : World) (K : PySem.W.Frag) (mg : Str → Option Value) (base : Heap) (CX : CXT) (k : Nat) (f : Addr) (fd : FuncData) (ps : List Str) (sp : Sp) : Prop where
  len : ∀ vs H Q E, sp vs H Q E → vs.length = ps.length
  run : ∀ (A : Around) (outer : List Env) (s : Shared) (H : Hp) (args : Args) (us : List Value) (vs : List V) (Q : VK) (E : XK), A.guards = some [] → Room k A → Env0 P w K mg base A outer s H →
    BindsTo s fd args (ps.zip us) → Vals vs us → sp vs H Q E → codeAny (model P w) A (.call (.ref f) args) (CR CX outer P w H s Q E) s
/-- the body's end is the call's end -/
theorem body_end {CX : CXT} {P : Program} {w : World} {K : PySem.W.Frag} {mg : Str → Option Value} {base : Heap} {N : List Str} {qual : Str} {scope : Scope} {f : Addr} {cdv : Value} {A : Around} {outer : List Env} {s s' : Shared} {H : Hp} {Q : VK} {E : XK} : ∀ (fl : Flow),
    SP (cxOf CX P w K mg base N qual scope f cdv A outer s H E) [] { nx := fun _ H' => Q .non H', rt := Q } fl s' → CR CX outer P w H s Q E (.ok (.ret (match fl with | .ret v => v | _ => .none))) s' := by
  intro fl h
  cases fl with
  | ret u =>
    obtain ⟨v, σ', H', J, rv, q⟩ := h
    exact ⟨v, H', J.os, J.bare, J.base, J.hok, rv, q⟩
  | next =>
    obtain ⟨σ', H', J, q⟩ := h
    exact ⟨.non, H', J.os, J.bare, J.base, J.hok, rfl, q⟩
  | brk => obtain ⟨_, _, _, q⟩ := h; exact q.elim
  | cont => obtain ⟨_, _, _, q⟩ := h; exact q.elim
theorem fn_g {CX : CXT} {P : Program} {w : World} {K : PySem.W.Frag} {mg : Str → Option Value} {base : Heap} {k : Nat} {f : Addr} {name qual : Str} {params : Arguments} {body : List Stmt} {scope : Scope} {dV kV doc pm cdv ct oc : Value} {an od : Option Addr}
    {osl : Array (Option Value)} {N ps : List Str} {sp : Sp} (lk : K.lookup f = some ⟨oc, od, .func (PySem.W.fnOf name qual params body scope dV kV doc pm an cdv ct), osl⟩) (hcd : PySem.W.codeIn K cdv qual = true) (S : FnScope N ps scope)
    (len : ∀ vs H Q E, sp vs H Q E → vs.length = ps.length)
    (hbody : ∀ (A : Around) (outer : List Env) (s : Shared) (H : Hp) (vs : List V) (Q : VK) (E : XK), A.guards = some [] → Room k (A.deeper (envOfC qual scope s.heap.objs.size f cdv)) → sp vs H Q E →
      ∃ t, PSs (cxOf CX P w K mg base N qual scope f cdv A outer s H E) body t ∧ t { nx := fun _ H' => Q .non H', rt := Q } (start N vs) H) :
    FnG P w K mg base CX (k + 1) f (PySem.W.fnOf name qual params body scope dV kV doc pm an cdv ct) ps sp := by
  refine ⟨len, fun A outer s H args us vs Q E hg hr e0 hb r hsp => ?_⟩
  have KX : K.In s.heap := e0.mod.kin.keeps fun b o e => (e0.bs b o e).1
  have kinds : ∀ y ∈ ps.zip us, scope.names.lookup y.1 = some .local ∨ (scope.names.lookup y.1 = some .cell ∧ ((cellsFrom (s.heap.objs.size + 1) scope.names []).lookup y.1).isSome = true) := by
    rintro ⟨n, v⟩ hy
    rcases S.par n (List.of_mem_zip hy).1 with q | q
    · exact .inl q
    · exact .inr ⟨q, PySem.W.cellsFrom_some _ _ _ (.inl q)⟩
  refine codeAny_call_function hr.depth (KX _ _ lk) rfl S.co S.gen rfl (PySem.W.codeRec_of KX hcd) (hb _ _ _ _ ?_)
  refine wpAny_newFunctionEnv_cells S.kind kinds fun env he s1 x => ?_
  subst he
  refine ⟨(e0.mod.nolimit.keeps fun b o e => (e0.bs b o e).1).keeps x.toInCall.keep, codeAny_func ?_⟩
  obtain ⟨t, ht, hq⟩ := hbody A outer s H vs Q E hg (hr.deeper _) hsp
  exact wpAny_mono (ht.run [] s1 (start N vs) H _ (inv_start S hr.hd e0 (len _ _ _ _ hsp) r x) hq) (fun fl s' hs => body_end fl hs) fun e s' hs => hs
section
variable {X : Cx} {CX : CXT} {k : Nat} {f C : Addr} {fd : FuncData} {ps : List Str} {sp : Sp} {dvs : List V} {ds : List Value} {E : XK} {x m : Str} {p pos apos : Pos} {e o : Expr} {es : List Expr} {ta : TE} {t : TA}
theorem run_fng {pins : List (Addr × Obj)} {σ : L2.St} {H : Hp} {s : Shared} {Q : VK} {us : List Value} {vs : List V} {A : Around} (F : FnG X.prog X.w X.K X.mg X.base CX k f fd ps sp) (hg : A.guards = some []) (hr : Room k A) (hfr : A.frames = X.A.frames) (hb : Binds X.K fd ps ds) (hd : Vals dvs ds)
    (hx : Passes CX X E) (I : Inv X pins σ H s) (r : Vals vs us) (h : sp (vs ++ dvs) H Q E) : wpAny (model X.prog X.w) A (call (.ref f) us) (EP X pins σ Q) X.xe s := by
  have r2 : Vals (vs ++ dvs) (us ++ ds) := r.append hd
  have hl : (us ++ ds).length = ps.length := by rw [← r2.length]; exact F.len _ _ _ _ h
  have e0 : Env0 X.prog X.w X.K X.mg X.base A X.stack s H := by
    have e := I.env0
    exact ⟨by rw [hfr]; exact e.frames, e.mod, e.bs, e.bsz, e.funs, e.frf, e.hok, e.bare⟩
  refine wpAny_call (codeAny_mono (F.run A X.stack s H ⟨us, []⟩ (us ++ ds) (vs ++ dvs) Q E hg hr e0 (hb s us I.kIn hl) r2 h) fun res s' hq => ?_)
  cases res with
  | error er => exact hx pins σ H s er s' I hq
  | ok fl => cases fl <;> first | exact I.after hq | exact False.elim hq
theorem pe_callG (F : FnG X.prog X.w X.K X.mg X.base CX k f fd ps sp) (hgu : X.A.guards = some []) (hr : Room k X.A) (hg : Gl X x) (hm : X.mg x = some (.ref f)) (hk : PySem.W.keepIn X.K (.ref f) = true) (hb : Binds X.K fd ps ds) (hd : Vals dvs ds) (hx : Passes CX X E)
    (ha : PA X (e :: es) t) (hdb : (x == ("__debug__" : Str)) = false := by decide) (he : starEach (e :: es) X.env = (false, eval e X.env) :: starEach es X.env := by rfl) (hpl : (backTo pos (starEach es X.env)).any (·.1) = false := by rfl) :
    PE X (.Call (.Name x p) (e :: es) [] pos) (tCall sp dvs E t) := by
  refine ⟨fun pins s σ H Q I h => ?_⟩
  refine wpAny_Call_Name_kw (ld_glob I hg hm (PySem.W.callWith_K (h₀ := X.base) I.ok.mod.kin hk (thn (ha.run pos pins s σ H _ I h) fun us s1 ⟨vs, H1, I1, r, q⟩ => ⟨I1.kIn, ?_⟩) he hpl) hdb)
  exact run_fng F hgu hr rfl hb hd hx I1 r q
/-- repr(o), o an instance of the class at C, its own __repr__ at f -/
def rRepr (C : Addr) (sp : Sp) (E : XK) : List V → Hp → VK → Prop := fun vs H Q => ∃ a dx fs, vs = [V.ref a] ∧ H a = some (.ins C dx fs) ∧ sp [.ref a] H (fun z H' => ∃ y, z = .str y ∧ Q z H') E
theorem call_reprO (F : FnG X.prog X.w X.K X.mg X.base CX k f fd ps sp) (hgu : X.A.guards = some []) (hr : Room (k + 1) X.A) (hs : PySem.W.findIn X.K (.ref C) "__repr__" = some (some (.ref f))) (hf : PySem.W.isFn X.K (.ref f) = true) (hb : Binds X.K fd ps []) (hx : Passes CX X E) :
    CallR X (.builtin "repr") (rRepr C sp E) := by
  intro pins s σ H xs us Q I r h
  obtain ⟨a, dx, fs, rfl, ha, q⟩ := h
  obtain ⟨u, rfl, ru⟩ := vals1 r
  cases ru
  obtain ⟨mA, J, _⟩ := ins_get I.hok ha
  obtain ⟨od, J, _⟩ := J.look
  obtain ⟨m, hF⟩ := I.fr
  have h1 := hr.in1
  refine PySem.W.repr_K (by have := h1.units; omega) hF I.ok.mod.kin J hs hf (wpAny_mono (run_fng (us := [.ref a]) (vs := [.ref a]) (dvs := []) F hgu h1 rfl hb .nil hx I (.cons rfl .nil) q) (fun v s' z => ?_) fun _ _ z => z)
  obtain ⟨z, H', I', rz, y, ez, qz⟩ := z
  subst ez
  obtain ⟨t, rfl⟩ := rz
  exact ⟨.str y, H', I', ⟨t, rfl⟩, qz⟩
/-- {x!r}, x data that is shown -/
def tFmtD (K : PySem.W.Frag) (te : TE) : TE := fun σ H Q => te σ H fun x H1 => ∃ a d, x = .ref a ∧ Dp K H1 x d ∧ d.showable = true ∧ d.hasDict = false ∧ d.depth ≤ 8 ∧ d.shown.length ≤ 100000 ∧ Q (.str d.shown) H1
theorem pe_fmtD (hgu : X.A.guards = some []) (hu : X.A.units + 64 < cLine) (he : PE X e ta) : PE X (.FormattedValue e 114 none pos) (tFmtD X.K ta) := by
  refine ⟨fun pins s σ H Q I h => ?_⟩
  refine wpAny_FormattedValue_repr (thn (he.run pins s σ H _ I h) fun v s1 hv => ?_)
  obtain ⟨x, H1, I1, r1, a, d, rfl, hd, hs, hnd, h8, hl, q⟩ := hv
  cases r1
  obtain ⟨as, rd⟩ := Dp.reads I1 d (.ref a) _ hd rfl
  have hz : d.shown.length ≤ sizeLine := by rw [sizeLine_eq]; omega
  refine pyReprObj_of_reads rd hs (fun z => by rw [hnd] at z; cases z) hgu (by omega) (fun b o z => z) (fun h' u tk k => ?_) hz
  have I2 := I1.kept (h' := h') (t' := tk) k
  exact wpAny_formatField_str ⟨.str d.shown, H1, I2, ⟨u, rfl⟩, q⟩ ⟨.str d.shown, H1, I2.tok _, ⟨_, rfl⟩, q⟩ hz
end
end K30
set_option maxHeartbeats 4000000
namespace K30
open PySem PySem.Spec PyProof.Rows L2
/-! ### a > b of alike data; sorted of data that stands in order -/
section
variable {X : Cx}
def rGtD (K : PySem.W.Frag) : R2 := fun x y H Q => ∃ d e, Dp K H x d ∧ Dp K H y e ∧ PySem.W.alike d e = true ∧ d ≠ .none ∧ d.depth ≤ 8 ∧ Q (.bl (PySem.W.dataLt e d)) H
theorem op_gtD (hu : X.A.units + 64 < cLine) : OpR X (compareOp .Gt) (rGtD X.K) := by
  intro pins s σ H x y v u Q I rx ry h
  obtain ⟨d, e, hd, he, ha, hn, h8, q⟩ := h
  obtain ⟨as, r1⟩ := Dp.reads I d x v hd rx
  obtain ⟨bs, r2⟩ := Dp.reads I e y u he ry
  exact PySem.W.gt_data r1 r2 ha hn (by omega) ⟨.bl _, H, I, rfl, q⟩
theorem each_of {R : Value → V × PyData → Prop} : ∀ {xs : List V} {ds : List PyData} {us : List Value}, xs.length = ds.length → Vals xs us → (∀ (i : Nat) x d u, xs[i]? = some x → ds[i]? = some d → us[i]? = some u → RelV x u → R u (x, d)) → PySem.W.EachIs R us (xs.zip ds)
  | [], [], _, _, .nil, _ => .nil
  | x :: xs, d :: ds, _, hl, .cons r t, h => .cons (h 0 x d _ rfl rfl rfl r) (each_of (by simpa using hl) t fun i x' d' u' h1 h2 h3 => h (i + 1) x' d' u' (by simpa using h1) (by simpa using h2) (by simpa using h3))
  | [], _ :: _, _, hl, _, _ => by simp at hl
  | _ :: _, [], _, hl, _, _ => by simp at hl
theorem vals_each : ∀ {us : List Value} {bs : List (V × PyData)}, PySem.W.EachIs (fun u b => RelV b.1 u) us bs → Vals (bs.map (·.1)) us
  | _, _, .nil => .nil
  | _, _, .cons r t => .cons r (vals_each t)
theorem zip_fst : ∀ {α β : Type} {xs : List α} {ds : List β}, xs.length = ds.length → (xs.zip ds).map (·.1) = xs
  | _, _, [], [], _ => rfl
  | _, _, x :: xs, d :: ds, h => by simp [zip_fst (xs := xs) (ds := ds) (by simpa using h)]
  | _, _, [], _ :: _, h => by simp at h
  | _, _, _ :: _, [], h => by simp at h
theorem zip_snd : ∀ {α β : Type} {xs : List α} {ds : List β}, xs.length = ds.length → (xs.zip ds).map (·.2) = ds
  | _, _, [], [], _ => rfl
  | _, _, x :: xs, d :: ds, h => by simp [zip_snd (xs := xs) (ds := ds) (by simpa using h)]
  | _, _, [], _ :: _, h => by simp at h
  | _, _, _ :: _, [], h => by simp at h
/-- sorted(xs), xs in order already -/
def rSortedD (K : PySem.W.Frag) : List V → Hp → VK → Prop := fun vs H Q => ∃ a xs ds, vs = [V.ref a] ∧ SqL K H a xs ∧ DpAll K H xs ds ∧ PySem.W.AllAlike ds ∧ PySem.W.Sortable ds ∧ (∀ d ∈ ds, d.depth ≤ 8) ∧
  ds.Pairwise (fun d e => PySem.W.dataLt e d = false) ∧ ∀ p, H p = none → Q (.ref p) (upd H p (.lst xs))
theorem call_sortedD (hu : X.A.units + 64 < cLine) : CallR X (.builtin "sorted") (rSortedD X.K) := by
  intro pins s σ H xs us Q I r h
  obtain ⟨a, xs, ds, rfl, ha, hd, hal, hso, h8, hp, q⟩ := h
  obtain ⟨u, rfl, ru⟩ := vals1 r
  cases ru
  obtain ⟨its, rv, pl, hz⟩ := I.list ha
  have hlen : xs.length = ds.length := dpAll_len hd
  have hm : (xs.zip ds).map (·.2) = ds := zip_snd hlen
  have hpw : (xs.zip ds).mergeSort (PySem.W.dataLe false (·.2)) = xs.zip ds := by
    refine List.mergeSort_of_pairwise ?_
    have e : ((xs.zip ds).map (·.2)).Pairwise (fun d e => PySem.W.dataLt e d = false) := by rw [hm]; exact hp
    rw [List.pairwise_map] at e
    refine e.imp fun {p q} h => ?_
    show (!PySem.W.dataLt q.2 p.2) = true
    rw [h] <;> rfl
  refine PySem.W.sorted_data (R := fun u b => RelV b.1 u) (enc := (·.2)) (bs := xs.zip ds) (vs := its) pl.isList (each_of hlen rv fun i x d u _ _ _ r => r) (each_of hlen rv fun i x d u h1 h2 _ r => ?_) (by rw [hm]; exact hal) (by rw [hm]; exact hso)
    (by rw [List.length_zip]; omega) (fun b hb => ?_) fun out ho he => ?_
  · obtain ⟨v, hv, hdp⟩ := dpAll_get hd h2
    rw [h1] at hv
    cases hv
    exact Dp.reads I d x u hdp r
  · have := h8 b.2 (by rw [← hm]; exact List.mem_map_of_mem hb)
    omega
  · rw [hpw] at he
    have rv' := vals_each he
    rw [zip_fst hlen] at rv'
    obtain ⟨c, hc⟩ := sortedAll_at s.heap its out.toArray
    exact ⟨.ref (s.heap.objs.size + 1), _, I.laid (o := .lst xs) (t' := s.toks) (fun b o e => sortedAll_old e) (Nat.le_succ _) ⟨hz, out, c, rv', hc⟩, rfl, q _ (I.hok.fresh (Nat.le_succ _))⟩
end
end K30
set_option maxHeartbeats 4000000
namespace K30
open PySem PySem.Spec PyProof.Rows L2
/-! ### x != y, x an instance whose class has its own __eq__ and object's __ne__ -/
section
open PySem.W
variable {prog : Program} {w : World} {A : Around} {E : Value → Shared → Prop} {s : Shared} {K : Frag} {x y C f : Addr} {ox oy : Obj} {od oe : Option Obj}
theorem ifBound_b {M : Model} {A : Around} {id : String} {name : Str} {args : List Value} {Q : Option Value → Shared → Prop} (X : K.In s.heap) (I : PySem.W.InstAt s.heap x ox C od) (hs : findIn K (.ref C) name = some (some (.builtin id)))
    (hb : ∀ self, bindSpecial (.builtin id) self = pure (.builtin id, [self])) (h : wpAny M A (call (.builtin id) (.ref x :: args)) (fun v => Q (some v)) E s) : wpAny M A (callSpecialIfBound? (.ref x) name args) Q E s := by
  unfold callSpecialIfBound? bindSpecialIfBound?
  have fin : wpAny M A (call (.builtin id) ([.ref x] ++ args) >>= fun v => pure (some v)) Q E s := wpAny_bind (wpAny_mono h (fun _ _ q => wpAny_pure q) fun _ _ q => q)
  refine wpAny_holding (wpAny_bind (wpAny_bind (wpAny_bind (I.type.here ((looks_findIn X hs).here ?_)))))
  refine wpAny_bind (wpAny_askSetting (wpAny_ite ?_))
  split
  · exact wpAny_bind ((Looks.of_pure (hb _)).here (wpAny_pure (by exact fin)))
  · exact wpAny_tryCatch (wpAny_bind ((Looks.of_pure (hb _)).here (wpAny_pure (by exact fin))))
theorem obj_ne {Q : Fin → Shared → Prop} (hu : A.units < cLine) (X : K.In s.heap) (I : PySem.W.InstAt s.heap x ox C od) (he : findIn K (.ref C) "__eq__" = some (some (.ref f))) (hf : isFn K (.ref f) = true)
    (h : wpAny (model prog w) A (call (.ref f) [.ref x, .ref y]) (fun v s' => ∃ b, v = .bool b ∧ Q (.done (.ret (.bool (!b)))) s') E s) :
    wpAny (model prog w) A (Builtin.«object.__ne__» ⟨[.ref x, .ref y], []⟩) Q E s := by
  obtain ⟨hp, g, d, t, os⟩ := s
  unfold Builtin.«object.__ne__»
  refine wpAny_bind (m := slotArgs _ _ _) (wpAny_pure ?_)
  refine wpAny_bind (wpAny_cRoomFor hu ?_)
  refine wpAny_bind (m := callSpecialIfBound? (.ref x) (Str.ofString "__eq__") [.ref y]) (ifBound_K X I he hf (wpAny_mono h (fun v s' hv => ?_) fun _ _ z => z))
  obtain ⟨b, rfl, q⟩ := hv
  refine wpAny_bind (m := truthy (.bool b)) (wpAny_truthy_bool ?_)
  exact wpAny_pure q
theorem ne_own {Q : Value → Shared → Prop} (hu : A.units + 1 < cLine) (X : K.In s.heap) (I : PySem.W.InstAt s.heap x ox C od) (J : PySem.W.InstAt s.heap y oy C oe) (hn : findIn K (.ref C) "__ne__" = some (some (.builtin "object.__ne__")))
    (he : findIn K (.ref C) "__eq__" = some (some (.ref f))) (hf : isFn K (.ref f) = true) (hm : mroIn K C (.type "object") = some true)
    (h : wpAny (model prog w) A.in1 (call (.ref f) [.ref x, .ref y]) (fun v s' => ∃ b, v = .bool b ∧ Q (.bool (!b)) s') E s) :
    wpAny (model prog w) A (richCompare .NotEq (.ref x) (.ref y)) Q E s := by
  have sub : Looks (model prog w) s.heap (isInstance (.ref x) (.type "object")) true := I.type.andThen (looks_mroIn X hm)
  have one : wpAny (model prog w) A (tryCompare (.ref x) (cmpInfo .NotEq).2.1 (.ref y)) (fun r s' => ∃ v, r = some v ∧ Q v s') E s := by
    unfold tryCompare
    refine wpAny_bind (ifBound_b X I hn F.slot_object_ne.bind ?_)
    refine wpAny_call (codeAny_call_builtin F.slot_object_ne.plain F.entry_object_ne (check_slot F.cmpKind_ne F.cmpSplit_ne sub (F.cmpArgs_ne _ _) ?_))
    refine obj_ne (A := A.in1) hu X I he hf (wpAny_mono h (fun v s' hv => ?_) fun _ _ z => z)
    obtain ⟨b, rfl, q⟩ := hv
    exact ⟨b, rfl, wpAny_pure ⟨_, rfl, q⟩⟩
  unfold richCompare
  simp only [oneThing_ref]
  refine wpAny_holding (wpAny_bind (wpAny_cRoomFor (by omega) ?_))
  refine wpAny_bind (I.type.here (wpAny_bind (J.type.here ?_)))
  rw [show (Value.ref C != Value.ref C) = false from by simp]
  refine wpAny_bind (wpAny_pure ?_)
  simp only [Bool.false_eq_true, if_false]
  refine wpAny_bind (wpAny_mono one (fun r s' z => ?_) fun _ _ z => z)
  obtain ⟨v, rfl, q⟩ := z
  exact wpAny_pure q
end
end K30
set_option maxHeartbeats 4000000
namespace K30
/-! ### != of two lists, two tuples whose items are equal in turn -/
section
open PySem PySem.SeqAt
open AutoSeq1 (wpAny_loadPart')
open MeetsSeq MeetsSeq2 MeetsSeq3 SeqRoads2
variable {prog : Program} {w : World} {A : Around} {R : Result → Shared → Prop}
theorem ne_loop_eq (l b : Addr) (N : Nat) (I : Nat → Shared → Prop) (hl : GQ.ListI prog w A (fun e s' => R (.error e) s') l b N I) (fin : ∀ s, I N s → R (.ok (.ret (.bool false))) s) :
    ∀ (k i : Nat), i + k = N → ∀ s, I i s → wpAny (model prog w) A.in1 (Builtin.«list.__eq__.loop» ⟨[.ref l, .ref b, rawInt i, rawInt 3], []⟩) (GQ.FinOf prog w A R) (fun e s' => R (.error e) s') s := by
  intro k
  induction k with
  | zero =>
    intro i hi s h
    obtain ⟨xs, ys, n, n2, e1, e2, z1, z2, _⟩ := hl i s h
    have h' : R (.ok (.ret (.bool false))) s := fin s (by rw [← hi]; exact h)
    obtain ⟨hp, g, d, tk, os⟩ := s
    wp_walk using wpAny_loadPart' e1, wpAny_loadPart' e2
    have o1 : xs[((i : Nat) : Int).toNat]? = none := by simp; omega
    have o2 : ys[((i : Nat) : Int).toNat]? = none := by simp; omega
    rw [o1, o2]
    wp_walk using wpAny_loadPart' e1, wpAny_loadPart' e2
    show R (.ok (.ret (.bool (xs.size != ys.size)))) _
    rw [z1, z2]
    simpa using h'
  | succ k ih =>
    intro i hi s h
    obtain ⟨xs, ys, n, n2, e1, e2, z1, z2, turn⟩ := hl i s h
    have l1 : i < xs.size := by omega
    have l2 : i < ys.size := by omega
    have ht := turn l1 l2
    obtain ⟨hp, g, d, tk, os⟩ := s
    wp_walk using wpAny_loadPart' e1, wpAny_loadPart' e2
    have o1 : xs[((i : Nat) : Int).toNat]? = some xs[i] := by simp [l1]
    have o2 : ys[((i : Nat) : Int).toNat]? = some ys[i] := by simp [l2]
    have hc : ((i : Int) + 1) = ((i + 1 : Nat) : Int) := by omega
    rw [o1, o2]
    refine wpAny_bind (wpAny_mono ht (fun r s2 q => ?_) fun _ _ z => z)
    obtain ⟨rfl, q⟩ := q
    have next := ih (i + 1) (by omega) s2 q
    obtain ⟨hp2, g2, d2, tk2, os2⟩ := s2
    wp_walk
    rw [hc]
    exact ⟨plainId_quiet plain_eq_loop _, codeAny_builtin entry_eq_loop (by rw [Around.under_plainId plain_eq_loop _]; exact next)⟩
theorem list_ne_eq (l b : Addr) (N : Nat) (I : Nat → Shared → Prop) (hl : GQ.ListI prog w A (fun e s' => R (.error e) s') l b N I) (fin : ∀ s, I N s → R (.ok (.ret (.bool false))) s) {s : Shared} (h : I 0 s) :
    wpAny (model prog w) A.in1 (Builtin.«list.__ne__» ⟨[.ref l, .ref b], []⟩) (GQ.FinOf prog w A R) (fun e s' => R (.error e) s') s := by
  obtain ⟨xs, ys, n, n2, e1, e2, z1, z2, _⟩ := hl 0 s h
  have go := ne_loop_eq (A := A) (R := R) l b N I hl fin N 0 (Nat.zero_add N) s h
  obtain ⟨hp, g, d, tk, os⟩ := s
  have sb := AutoSeq1.sub_list_list
  have hne : ¬ (xs.size != ys.size) = true := by simp [z1, z2]
  wp_walk using wpAny_loadPart' e1, wpAny_loadPart' e2
  exact ⟨plainId_quiet plain_eq_loop _, codeAny_builtin entry_eq_loop (by rw [Around.under_plainId plain_eq_loop _]; exact go)⟩
theorem tuple_ne_eq (l b : Addr) (xs ys : Array Value) (n n2 : Nat) (dd dd2 : Option Addr) (sl sl2 : Array (Option Value)) (hsz : xs.size = ys.size) (I : Nat → Shared → Prop)
    (turn : ∀ i (h1 : i < xs.size) (h2 : i < ys.size) s, I i s → wpAny (model prog w) A.in1 (eqBool xs[i] ys[i]) (fun r s' => r = true ∧ I (i + 1) s') (fun e s' => R (.error e) s') s)
    (fin : ∀ s, I xs.size s → R (.ok (.ret (.bool false))) s) {s : Shared} (e1 : s.heap.get? l = some { cls := .type "tuple", dict := dd, data := .seq xs n, slots := sl }) (e2 : s.heap.get? b = some { cls := .type "tuple", dict := dd2, data := .seq ys n2, slots := sl2 }) (h : I 0 s) :
    wpAny (model prog w) A.in1 (Builtin.«tuple.__ne__» ⟨[.ref l, .ref b], []⟩) (GQ.FinOf prog w A R) (fun e s' => R (.error e) s') s := by
  have sb := AutoSeq1.sub_tuple_tuple
  have hZ : (xs.toList.zip ys.toList).length = xs.size := by simp [hsz]
  have h0 := h
  obtain ⟨hp, g, d, tk, os⟩ := s
  wp_walk using wpAny_loadPart' e1, wpAny_loadPart' e2, wpAny_forIn_list _ (fun rest b s' => b.1 = none ∧ ∃ i, rest = (xs.toList.zip ys.toList).drop i ∧ i ≤ xs.size ∧ I i s') _
  case turn =>
    rintro ⟨u, v⟩ rest b s' ⟨hb', i, hz, hi, hI⟩
    have hlt : i < (xs.toList.zip ys.toList).length := by
      by_cases q : i < (xs.toList.zip ys.toList).length
      · exact q
      · rw [List.drop_of_length_le (by omega)] at hz; cases hz
    have h1 : i < xs.size := hZ ▸ hlt
    have h2 : i < ys.size := hsz ▸ h1
    rw [List.drop_eq_getElem_cons hlt] at hz
    injection hz with huv hrest
    obtain rfl : u = xs[i] := by have := congrArg Prod.fst huv; simpa using this
    obtain rfl : v = ys[i] := by have := congrArg Prod.snd huv; simpa using this
    refine wpAny_bind (wpAny_mono (turn i h1 h2 s' hI) (fun r s2 q => ?_) fun _ _ z => z)
    obtain ⟨rfl, q⟩ := q
    wp_walk
    exact ⟨rfl, i + 1, hrest, h1, q⟩
  case fin =>
    rintro ⟨b1, b2⟩ s' ⟨hb', i, hz, hi, hI⟩
    simp only at hb'
    subst hb'
    have hge : ¬ i < (xs.toList.zip ys.toList).length := fun q => by rw [List.drop_eq_getElem_cons q] at hz; cases hz
    have hi' : i = xs.size := by rw [hZ] at hge; omega
    have hR : R (.ok (.ret (.bool false))) s' := fin s' (hi' ▸ hI)
    wp_walk
    simpa [Builtin.Tuple.tupleCompareSizes, hsz] using hR
  case h => exact ⟨rfl, 0, rfl, Nat.zero_le _, h0⟩
end
end K30
set_option maxHeartbeats 4000000
namespace K30
open PySem PySem.Spec PyProof.Rows L2
section
open PySem PySem.SeqAt
open MeetsSeq MeetsSeq2 MeetsSeq3 SeqRoads2
variable {prog : Program} {w : World} {A : Around} {E : Value → Shared → Prop} {s : Shared}
theorem rc_list_ne {l b : Addr} {N : Nat} {Q : Value → Shared → Prop} (hu : A.units < cLine) (I : Nat → Shared → Prop) (hl : GQ.ListI prog w A E l b N I) (fin : ∀ s, I N s → Q (.bool false) s) (h : I 0 s) :
    wpAny (model prog w) A (richCompare .NotEq (.ref l) (.ref b)) Q E s := by
  obtain ⟨xs, ys, n, n2, e1, e2, _, _, _⟩ := hl _ _ h
  refine wpAny_richCompare_same_room (op := .NotEq) ⟨_, e1, rfl⟩ ⟨_, e2, rfl⟩ F.slot_list_ne (GQ.call_here F.slot_list_ne ⟨_, e1, rfl⟩ F.entry_list_ne (F.args_list_ne_2 _ _) ?_) hu
  exact list_ne_eq (R := wants (fun v s' => v ≠ .notImplemented ∧ Q v s') E) l b N I hl (fun s' q => ⟨(fun x => nomatch x), fin s' q⟩) h
theorem rc_tup_ne {l b : Addr} {xs ys : Array Value} {Q : Value → Shared → Prop} (hsz : xs.size = ys.size) (hu : A.units < cLine) (I : Nat → Shared → Prop) (hl : s.heap.IsTuple l xs) (hb : s.heap.IsTuple b ys)
    (turn : ∀ i (h1 : i < xs.size) (h2 : i < ys.size) s, I i s → wpAny (model prog w) A.in1 (eqBool xs[i] ys[i]) (fun r s' => r = true ∧ I (i + 1) s') E s) (fin : ∀ s, I xs.size s → Q (.bool false) s) (h : I 0 s) :
    wpAny (model prog w) A (richCompare .NotEq (.ref l) (.ref b)) Q E s := by
  obtain ⟨⟨cls, dd, data, sl⟩, ho, hc, n, hd⟩ := id hl
  obtain ⟨⟨cls2, dd2, data2, sl2⟩, ho2, hc2, n2, hd2⟩ := id hb
  simp only at hc hd hc2 hd2
  subst hc hd hc2 hd2
  refine wpAny_richCompare_same_room (op := .NotEq) ⟨_, ho, rfl⟩ ⟨_, ho2, rfl⟩ F.slot_tuple_ne (GQ.call_here F.slot_tuple_ne ⟨_, ho, rfl⟩ F.entry_tuple_ne (F.args_tuple_ne_2 _ _) ?_) hu
  exact tuple_ne_eq (R := wants (fun v s' => v ≠ .notImplemented ∧ Q v s') E) l b xs ys n n2 dd dd2 sl sl2 hsz I turn (fun s' q => ⟨(fun x => nomatch x), fin s' q⟩) ho ho2 h
end
/-- != gives False for what D says, and only makes objects -/
def NcG (X : Cx) (n : Nat) (D : Eqv) : Prop :=
  ∀ (A : Around) (pins : List (Addr × Obj)) (s : Shared) (σ : L2.St) (H : Hp) (x y : V) (u v : Value), L2.Sub X n A → Inv X pins σ H s → RelV x u → RelV y v → D x y H →
    wpAny (model X.prog X.w) A (richCompare .NotEq u v) (fun r s' => r = .bool false ∧ ∃ H', Inv X pins σ H' s' ∧ Ext H H') X.xe s
section
variable {X : Cx} {n : Nat} {D : Eqv}
theorem ncG_list (hD : Mon D) (h : EqG X n D) : NcG X (n + 1) (DList D) := by
  intro A pins s σ H x y u v sb I rx ry d
  obtain ⟨a, b, xs, ys, rfl, rfl, ha, hb, p⟩ := d
  cases rx
  cases ry
  refine rc_list_ne (N := xs.length) sb.room.units0 (fun _ s' => LoopI X pins σ H s') (fun i s' q => ?_) (fun s' q => ⟨rfl, q⟩) ⟨H, I, Ext.rfl'⟩
  obtain ⟨H1, I1, e1⟩ := id q
  obtain ⟨z, its, k, r, e⟩ := I1.hok a _ (e1 _ _ ha)
  obtain ⟨z2, its2, k2, r2, e2⟩ := I1.hok b _ (e1 _ _ hb)
  exact ⟨its.toArray, its2.toArray, k, k2, e, e2, by rw [List.size_toArray, ← r.length], by rw [List.size_toArray, ← r2.length, ← p.1], fun h1 h2 => turnG hD h sb p r r2 i h1 h2 s' q⟩
theorem ncG_tup (hD : Mon D) (h : EqG X n D) : NcG X (n + 1) (DTup X.K D) := by
  intro A pins s σ H x y u v sb I rx ry d
  obtain ⟨a, b, xs, ys, rfl, rfl, ha, hb, p⟩ := d
  cases rx
  cases ry
  obtain ⟨its, r, e, z⟩ := I.tuple ha
  obtain ⟨its2, r2, e2, z2⟩ := I.tuple hb
  have hsz : its.toArray.size = its2.toArray.size := by rw [List.size_toArray, List.size_toArray, ← r.length, ← r2.length, p.1]
  exact rc_tup_ne hsz sb.room.units0 (fun _ s' => LoopI X pins σ H s') e e2 (fun i h1 h2 s' q => turnG hD h sb p r r2 i h1 h2 s' q) (fun s' q => ⟨rfl, q⟩) ⟨H, I, Ext.rfl'⟩
/-- what a class with its own __eq__ and object's __ne__ shows -/
structure NeC (K : PySem.W.Frag) (C f : Addr) : Prop where
  ne : PySem.W.findIn K (.ref C) "__ne__" = some (some (.builtin "object.__ne__"))
  eq : PySem.W.findIn K (.ref C) "__eq__" = some (some (.ref f))
  fn : PySem.W.isFn K (.ref f) = true
  ob : PySem.W.mroIn K C (.type "object") = some true
theorem ncG_ins {CX : CXT} {C f : Addr} {fd : FuncData} {ps : List Str} {R : Addr → Addr → Hp → Prop} {E : XK} (F : FnOk X.prog X.w X.K X.mg X.base CX n f fd ps (spEq R)) (c : NeC X.K C f) (hb : Binds X.K fd ps []) (hx : Passes CX X E) : NcG X (n + 1) (DIns C R) := by
  intro A pins s σ H x y u v sb I rx ry d
  obtain ⟨a, b, dx, dy, fs, gs, rfl, rfl, ha, hb', hr⟩ := d
  cases rx
  cases ry
  obtain ⟨mA, J, _⟩ := ins_get I.hok ha
  obtain ⟨mB, J', _⟩ := ins_get I.hok hb'
  obtain ⟨od, J, _⟩ := J.look
  obtain ⟨od', J', _⟩ := J'.look
  have sb1 := sb.in1
  have hun := sb.room.units
  refine ne_own (by omega) I.kIn J J' c.ne c.eq c.fn c.ob ?_
  have hsp : spEq R [.ref a, .ref b] H (fun v H' => v = .bl true ∧ Ext H H') E := ⟨a, b, rfl, hr, fun H' e => ⟨rfl, e⟩⟩
  have e0 : Env0 X.prog X.w X.K X.mg X.base A.in1 X.stack s H := by
    have e := I.env0
    exact ⟨by rw [sb1.fr]; exact e.frames, e.mod, e.bs, e.bsz, e.funs, e.frf, e.hok, e.bare⟩
  have hl := F.len _ _ _ _ hsp
  have bnd := hb s [.ref a, .ref b] I.kIn (by simpa using hl)
  rw [List.append_nil] at bnd
  refine wpAny_call (codeAny_mono (F.run A.in1 X.stack s H ⟨[.ref a, .ref b], []⟩ [.ref a, .ref b] [.ref a, .ref b] _ E sb1.room e0 bnd (.cons rfl (.cons rfl .nil)) hsp) fun r s' hq => ?_)
  cases r with
  | error e => exact hx pins σ H s e s' I hq
  | ok fl =>
    cases fl with
    | ret w =>
      obtain ⟨z, H', I', rz, ez, ex⟩ := I.after hq
      subst ez
      cases rz
      exact ⟨true, rfl, rfl, H', I', ex⟩
    | next => exact False.elim hq
    | brk => exact False.elim hq
    | cont => exact False.elim hq
/-- x != y as an expression, the two equal -/
def rNc (D : Eqv) : R2 := fun x y H Q => D x y H ∧ ∀ H', Ext H H' → Q (.bl false) H'
theorem op_nc (h : NcG X n D) (hr : Room n X.A) : OpR X (compareOp .NotEq) (rNc D) := by
  intro pins s σ H x y v u Q I rx ry hq
  obtain ⟨d, q⟩ := hq
  show wpAny (model X.prog X.w) X.A (richCompare .NotEq v u) (EP X pins σ Q) X.xe s
  refine wpAny_mono (h X.A pins s σ H x y v u ⟨hr, rfl⟩ I rx ry d) (fun r s' z => ?_) fun _ _ x => x
  obtain ⟨rfl, H', I', e⟩ := z
  exact ⟨.bl false, H', I', rfl, q H' e⟩
end
end K30
set_option maxHeartbeats 4000000
namespace K30
/-! ### set(xs) of different texts -/
section
open PySem PySem.Spec PyProof.Rows
variable {prog : Program} {w : World} {A : Around} {R : Result → Shared → Prop} {I : Addr} {fp wr : List Addr} {G : Array GenState → Array GenState → Prop} {n : Nat} {P : Nat → Value → Prop} {St : Nat → Shared → Prop}
/-- the first i texts are in the set -/
abbrev UpTo (prog : Program) (w : World) (xs : List Str) (S : Addr) (i : Nat) (s : Shared) : Prop := s.heap.SetOf (PySem.strKind prog w) S (fun k => (xs.take i).any (· == k)) i
theorem UpTo.stays {xs : List Str} {S : Addr} {i : Nat} {s s' : Shared} (h : UpTo prog w xs S i s) (k : ∀ o, s.heap.get? S = some o → s'.heap.get? S = some o) : UpTo prog w xs S i s' := by
  obtain ⟨o, es, ep, t, ho, r⟩ := h
  exact ⟨o, es, ep, t, k o ho, r⟩
theorem any_more {xs : List Str} {i : Nat} {x : Str} (hx : xs[i]? = some x) (k : Str) : (xs.take (i + 1)).any (· == k) = ((xs.take i).any (· == k) || decide (k = x)) := by
  have e : xs.take (i + 1) = xs.take i ++ [x] := by
    rw [List.take_add_one, hx] <;> rfl
  rw [e, List.any_append]
  by_cases q : k = x
  · subst q; simp
  · have q' : (x == k) = false := by simpa using fun z : x = k => q z.symm
    simp [q, q']
theorem not_yet {xs : List Str} (hn : xs.Nodup) {i : Nat} {x : Str} (hx : xs[i]? = some x) : (xs.take i).any (· == x) = false := by
  rw [List.any_eq_false]
  intro y hy e
  have e' : y = x := by simpa using e
  subst e'
  obtain ⟨j, hj⟩ := List.mem_iff_getElem?.mp hy
  rw [List.getElem?_take] at hj
  split at hj
  · rename_i hlt
    exact absurd (L2.nodup_ix hn hj hx) (Nat.ne_of_lt hlt)
  · cases hj
theorem set_loop (W : WalksS prog w A.in1 I fp wr G n P St) (S : Addr) (hSf : S ∉ fp) (xs : List Str) (hn : xs.Nodup) (hz : xs.length = n) (hb : n + 1 < scanBound) (hval : ∀ i v, P i v → ∃ x t, xs[i]? = some x ∧ v = .str x t) :
    ∀ (k i : Nat) (s : Shared), i + k = n → St i s → UpTo prog w xs S i s → (∀ s', Moved (S :: wr) G s s' → UpTo prog w xs S n s' → R (.ok (.ret .none)) s') →
      codeAny (model prog w) A (.builtin "set.update.loop" ⟨[.ref S, .ref I], []⟩) R s := by
  have out : S ∉ wr := fun h => hSf (W.sub _ h)
  have more : ∀ b ∈ wr, b ∈ S :: wr := fun b hb => List.mem_cons_of_mem _ hb
  intro k
  induction k with
  | zero =>
    intro i s hi st u fin
    obtain rfl : i = n := hi
    refine codeAny_builtin F.entry_set_update_loop ?_
    rw [Around.under_plainId F.plain_set_update_loop _]
    show wpAny _ A.in1 (pyNext (.ref I) >>= _) _ _ s
    refine wpAny_bind (W.done s _ _ st fun s' mv => ?_)
    show wpAny _ A.in1 (ret Value.none) _ _ s'
    exact wpAny_pure (fin s' (mv.mono more) (u.stays fun o => mv.heap S o out))
  | succ k ih =>
    intro i s hi st u fin
    refine codeAny_builtin F.entry_set_update_loop ?_
    rw [Around.under_plainId F.plain_set_update_loop _]
    show wpAny _ A.in1 (pyNext (.ref I) >>= _) _ _ s
    refine wpAny_bind (W.item i s _ _ (by omega) st fun v s1 hP st1 mv => ?_)
    obtain ⟨x, t, hx, rfl⟩ := hval i v hP
    have u1 : UpTo prog w xs S i s1 := u.stays fun o => mv.heap S o out
    show wpAny _ A.in1 (holding [Value.str x t] (setAdd S (.str x t)) >>= _) _ _ s1
    refine wpAny_bind (wpAny_holding ?_)
    unfold setAdd
    refine wpAny_holding (wpAny_bind ((PySem.strKind prog w).pyHash (k := x) (strKind_is _ _ _ _) ?_))
    refine wpAny_setAddHashed_of (knd := PySem.strKind prog w) (s := { s1 with toks := s1.toks + 1 }) (strKind_is _ _ _ _) rfl u1 (by omega) fun h' sb s2 => ?_
    have u2 : UpTo prog w xs S (i + 1) { s1 with heap := h', toks := s1.toks + 1 } := SetOf_congr s2 (fun k' => (any_more hx k').symm) (by rw [if_neg (by rw [not_yet hn hx]; decide)])
    refine wpAny_pure ⟨plainId_quiet F.plain_set_update_loop _, ih (i + 1) _ (by omega) (W.frame _ s1 _ _ st1 (Nat.le_succ _) fun b hb o e => ?_) u2 fun s3 mv3 u3 => ?_⟩
    · rw [sb.2 b fun z => hSf (z ▸ hb)]
      exact e
    · refine fin s3 (Moved.trans W.gtrans ((mv.mono more).then_heap (Nat.le_succ _) fun b o hb e => ?_) mv3) u3
      rw [sb.2 b fun z => hb (z ▸ List.mem_cons_self)]
      exact e
end
section
open PySem PySem.Spec PyProof.Rows
variable {prog : Program} {w : World} {A : Around} {E : Value → Shared → Prop} {s : Shared}
abbrev set0 (led : Bool) : Obj := { cls := .type "set", dict := none, data := .set #[] 0 (.fresh 0 0 led) }
/-- what set(xs) leaves at the next address -/
abbrev SetEnd (prog : Program) (w : World) (xs : List Str) (s : Shared) (s' : Shared) : Prop := ∃ h' tk, s' = { s with heap := h', toks := tk } ∧ UpTo prog w xs s.heap.objs.size xs.length s' ∧ ∀ b o, b < s.heap.objs.size → s.heap.get? b = some o → h'.get? b = some o
theorem set_init {l : Addr} {items : Array Value} {xs : List Str} {led : Bool} (hh : A.handled = none) (hl : s.heap.IsList l items) (hi : StrsAre items.toList xs) (hn : xs.Nodup) (hb : xs.length + 1 < scanBound) :
    wpAny (model prog w) A.in1 (Builtin.«set.__init__» ⟨[.ref s.heap.objs.size, .ref l], []⟩) (GQ.FinOf prog w A (wants (fun r s₂ => r = .none ∧ SetEnd prog w xs s s₂) E)) (fun e s' => wants (fun r s₂ => r = .none ∧ SetEnd prog w xs s s₂) E (.error e) s')
      { s with heap := s.heap.push (set0 led) } := by
  obtain ⟨⟨ocls, odict, odata, oslots⟩, hol, hcl, nl, hdl⟩ := hl
  simp only at hcl hdl
  subst hcl
  subst hdl
  have sz : xs.length = items.size := by rw [← hi.length, Array.length_toList]
  have lt : l < s.heap.objs.size := Heap.lt_size hol
  have hS : (s.heap.push (set0 led)).get? s.heap.objs.size = some (set0 led) := Heap.get?_push_size _ rfl
  have hol' : (s.heap.push (set0 led)).get? l = some { cls := .type "list", dict := odict, data := .seq items nl, slots := oslots } := Heap.get?_push_of_some _ hol
  have hl1 : (s.heap.push (set0 led)).IsList l items := ⟨_, hol', rfl, nl, rfl⟩
  have f1 := F.sub_list_set
  have f2 := F.sub_list_frozenset
  have f3 : (Value.type "list" == Value.type "dict") = false := by decide
  unfold Builtin.«set.__init__» noKeywords Builtin.Frozenset.updateFrom
  generalize hPI : pyIter = PI
  wp_walk
  subst hPI
  refine wpAny_pyIter_list hl1 (wpAny_bind (wpAny_runValue ?_))
  have h3 : A.in1.in1.handled = none := by simp [hh]
  have ns : (s.heap.push (set0 led)).objs.size = s.heap.objs.size + 1 := Heap.size_push _ _
  have neI : l ≠ (s.heap.push (set0 led)).objs.size := by rw [ns]; exact Nat.ne_of_lt (Nat.lt_succ_of_lt lt)
  have apart : s.heap.objs.size ∉ [(s.heap.push (set0 led)).objs.size, l] := by
    rw [ns]
    intro z
    rcases List.mem_cons.mp z with z | z
    · exact absurd z (Nat.ne_of_lt (Nat.lt_succ_self _))
    · exact absurd (List.mem_singleton.mp z) (Nat.ne_of_gt lt)
  have val : ∀ (i : Nat) (v : Value), items[i]? = some v → ∃ x t, xs[i]? = some x ∧ v = .str x t := fun i v hv => by
    have hv' : items.toList[i]? = some v := by rw [Array.getElem?_toList]; exact hv
    obtain ⟨t, e⟩ := SS.strs_at hi i v hv'
    have hlt : i < xs.length := by rw [sz, ← Array.length_toList]; exact (List.getElem?_eq_some_iff.mp hv').1
    refine ⟨xs[i], t, List.getElem?_eq_getElem hlt, ?_⟩
    rw [e, List.getD_eq_getElem?_getD, List.getElem?_eq_getElem hlt] <;> rfl
  refine set_loop ((Walks.list h3 _ l neI items).toS) s.heap.objs.size apart xs hn sz (by rw [← sz]; exact hb) val items.size 0 _ (Nat.zero_add _) ?st ?start ?fin
  case st => exact ⟨⟨_, Heap.get?_push_size _ rfl, rfl, rfl⟩, hl1.push _⟩
  case start => exact SetOf_congr ((setObjOf_fresh (knd := PySem.strKind prog w) led).setOf (Heap.get?_push_of_some _ hS) (by unfold scanBound; omega)) (fun _ => rfl) rfl
  case fin =>
    intro s' mv u
    obtain ⟨h', g', d', tk', os'⟩ := s'
    obtain rfl : g' = s.gens := mv.gens
    obtain rfl : d' = s.drawn := mv.drawn
    obtain rfl : os' = s.os := mv.os
    show wpAny _ _ _ _ _ _
    refine wpAny_pure ?_
    show wpAny _ _ (ret Value.none) _ _ _
    refine wpAny_pure ⟨rfl, h', tk', rfl, by rw [sz]; exact u, fun b o hb e => ?_⟩
    refine mv.heap b o (fun z => ?_) (Heap.get?_push_of_some _ (Heap.get?_push_of_some _ e))
    rcases List.mem_cons.mp z with z | z
    · exact absurd z (Nat.ne_of_lt hb)
    · have z' := List.mem_singleton.mp z
      rw [ns] at z'
      exact absurd z' (Nat.ne_of_lt (Nat.lt_succ_of_lt hb))
theorem call_set_strs {l : Addr} {items : Array Value} {xs : List Str} {Q : Value → Shared → Prop} (hh : A.handled = none) (hl : s.heap.IsList l items) (hi : StrsAre items.toList xs) (hn : xs.Nodup) (hb : xs.length + 1 < scanBound)
    (h : ∀ s', SetEnd prog w xs s s' → Q (.ref s.heap.objs.size) s') : wpAny (model prog w) A (call (.type "set") [.ref l]) Q E s := by
  obtain ⟨c, tl, hmro⟩ := F.called_set.mro
  have a1 := F.called_set.made
  have a2 := F.called_set.sub
  have a3 := F.called_set.notType
  have a4 := F.called_set.canCreate
  have a5 := F.typeCall_set_1 (.ref l)
  refine wpAny_call (codeAny_of_tree ?_)
  show wpAny _ _ (callAny (.type "set") _) _ _ _
  refine wpAny_pure ⟨Code.quiet_builtin _ (by decide +kernel), codeAny_builtin F.entry_type_call ?_⟩
  rw [Around.under_plain (weight_type_call_type "set" [.ref l] []) rfl]
  repeat (any_goals (first | assumption | wp_step))
  refine codeAny_mono (code_set_new_1 (.ref l) (E := E) (Q₁ := fun obj s₁ => ∃ led : Bool, obj = .ref s.heap.objs.size ∧ s₁ = { s with heap := s.heap.push (set0 led) }) fun led => ⟨led, rfl, rfl⟩) fun r s₁ hr => ?_
  cases r with
  | error e => exact hr
  | ok fl =>
    cases fl <;> first | exact hr.elim | skip
    obtain ⟨led, rfl, rfl⟩ := hr
    have hT : Shared.TypeIs { s with heap := s.heap.push (set0 led) } (.ref s.heap.objs.size) "set" := ⟨_, Heap.get?_push_size _ rfl, rfl⟩
    have b1 := F.called_set.init.lookup
    have b2 := F.called_set.init.bind (.ref s.heap.objs.size)
    repeat (any_goals (first | assumption | wp_step))
    refine codeAny_mono (codeAny_call_builtin (R := wants (fun r s₂ => r = .none ∧ SetEnd prog w xs s s₂) E) F.called_set.init.plain F.entry_set_init (check_set_init_1 hT (set_init ?hh hl hi hn hb))) fun r₂ s₂ hr₂ => ?_
    case hh => first | exact hh | simp [hh]
    cases r₂ with
    | error e => exact hr₂
    | ok fl₂ =>
      cases fl₂ <;> first | exact hr₂.elim | skip
      obtain ⟨rfl, h', tk, rfl, q⟩ := hr₂
      repeat (any_goals (first | assumption | wp_step))
      exact h _ ⟨h', tk, rfl, q⟩
end
open PySem PySem.Spec PyProof.Rows L2
section
variable {X : Cx}
/-- len(set(xs)), xs a list of different texts -/
def tLenSetS (K : PySem.W.Frag) (ta : TE) : TE := fun σ H Q => ta σ H fun x H1 => ∃ l, ∃ xs : List Str, x = .ref l ∧ SqL K H1 l (xs.map V.str) ∧ xs.Nodup ∧ xs.length ≤ 4000 ∧ Q (.int xs.length) H1
theorem pe_lenSetS {a : Expr} {ta : TE} {p p2 q pos : Pos} (hc : X.calm = true) (hg : Gl X "len") (hm : X.mg "len" = none) (hg2 : Gl X "set") (hm2 : X.mg "set" = none) (ha : PE X a ta)
    (na : starEach [a] X.env = (false, eval a X.env) :: starEach [] X.env := by rfl) : PE X (.Call (.Name "len" p) [.Call (.Name "set" p2) [a] [] q] [] pos) (tLenSetS X.K ta) := by
  refine ⟨fun pins s σ H Q I h => ?_⟩
  refine Call_ (ld_blt I hg hm boot_len ?_)
  refine callWith_builtin1 (args_cons ?_ rfl) rfl rfl
  refine Call_ (ld_blt I hg2 hm2 boot_set ?_)
  refine callWith_type1 (args_cons (thn (ha.run pins s σ H _ I h) fun v s1 ⟨x, H1, I1, r1, q1⟩ => args_nil ?_) na) na rfl
  obtain ⟨l, xs, rfl, hq, hn, h4, q1⟩ := q1
  cases r1
  obtain ⟨its, rv, pl, hz⟩ := I1.list hq
  refine call_set_strs (I1.ok.hd hc) pl.isList (by simpa using strsAre_of rv) hn (by unfold scanBound; omega) fun s' e => ?_
  obtain ⟨h', tk, rfl, ⟨o, es, ep, t, ho, hex, hd, _, _, _, hf, hn'⟩, kp⟩ := e
  refine args_nil ?_
  have I2 : Inv X pins σ H1 { s1 with heap := h', toks := tk } := I1.kept fun b o e => kp b o (Heap.lt_size e) e
  refine call_len_set ho hex hd hf (by rw [hn']; omega) ⟨.int xs.length, H1, I2.tok _, ⟨_, by rw [hn']⟩, q1⟩
end
end K30
set_option maxHeartbeats 4000000
namespace K30
open PySem PySem.Spec PyProof.Rows L2
/-! ### enumerate of a tuple -/
theorem enum_newB {v : Value} {o : Obj} {Hh : Heap → Prop} (B : Begins v o Hh) :
    Meets (Builtin.«enumerate.__new__» ⟨[.type "enumerate", v], []⟩) (fun _ R s => Hh s.heap ∧
      R (.ok (.ret (.ref (s.heap.push o).objs.size))) { s with heap := (s.heap.push o).push { cls := .type "enumerate", data := .fields #[.none, .bool false, .ref s.heap.objs.size, rawInt 0, .none, .none] } }) :=
  .of_wp fun prog w A R s h => by
    obtain ⟨hp, g, d, tk, os⟩ := s
    obtain ⟨h1, h⟩ := h
    have hsub := sub_enumerate
    have q1 : ∀ {A' : Around} {E : Value → Shared → Prop} {Q : Value → Shared → Prop}, Q (.ref hp.objs.size) ⟨hp.push o, g, d, tk, os⟩ → wpAny (model prog w) A' (pyIter v) Q E ⟨hp, g, d, tk, os⟩ :=
      fun q => B.iter prog w _ _ ⟨hp, g, d, tk, os⟩ _ h1 q
    wp_walk using q1
    refine wpAny_stack_any fun st => wpAny_pure ?_
    split
    · rename_i c _ _ _ _ _
      cases (c == Value.type "enumerate") <;> (wp_walk using q1; exact ⟨_, rfl, h⟩)
    · wp_walk using q1
      exact ⟨_, rfl, h⟩
theorem call_enum_tuple {prog : Program} {w : World} {A : Around} {E : Value → Shared → Prop} {s : Shared} {t : Addr} {items : Array Value} {Q : Value → Shared → Prop} (ht : s.heap.IsTuple t items)
    (h : ∀ h', IsEnum h' (s.heap.objs.size + 1) s.heap.objs.size 0 .none → h'.IsTupleIter s.heap.objs.size t 0 → (∀ b o, s.heap.get? b = some o → h'.get? b = some o) → Q (.ref (s.heap.objs.size + 1)) { s with heap := h' }) :
    wpAny (model prog w) A (call (.type "enumerate") [.ref t]) Q E s := by
  refine callType_new F.called_enumerate (by decide) (F.typeCall_enumerate_1 _) (F.newCall_enumerate_1 _) (fun obj => F.args_object_init_2 obj _) F.entry_enumerate_new (enum_newB (begins_tuple t items)) ⟨ht, ?_⟩
  have hz : (s.heap.push { cls := .type "tuple_iterator", data := .fields #[.ref t, .int 0 0] }).objs.size = s.heap.objs.size + 1 := Heap.size_push ..
  show _ ∧ _
  rw [hz]
  have he : IsEnum ((s.heap.push { cls := .type "tuple_iterator", data := .fields #[.ref t, .int 0 0] }).push { cls := .type "enumerate", data := .fields #[.none, .bool false, .ref s.heap.objs.size, rawInt 0, .none, .none] }) (s.heap.objs.size + 1) s.heap.objs.size 0 .none := by
    have q := Heap.get?_push_size (s.heap.push { cls := .type "tuple_iterator", data := .fields #[.ref t, .int 0 0] }) (o := { cls := .type "enumerate", data := .fields #[.none, .bool false, .ref s.heap.objs.size, rawInt 0, .none, .none] }) rfl
    rw [hz] at q
    exact q
  exact ⟨⟨_, he, rfl⟩, h _ he ⟨_, Heap.get?_push_of_some _ (Heap.get?_push_size _ rfl), rfl, rfl⟩ fun b o x => Heap.get?_push_of_some _ (Heap.get?_push_of_some _ x)⟩
/-- the tuple at a, each item in a new pair -/
def Itet (K : PySem.W.Frag) (a : Addr) : It :=
  ⟨fun i H => ∃ (xs : List V) (x : V), SqT K H a xs ∧ xs[i]? = some x, fun i H v H' => ∃ T x, v = .ref T ∧ H T = none ∧ H' = upd H T (.tup [.int (i : Nat), x]) ∧ ∀ xs, SqT K H a xs → xs[i]? = some x, fun i H => ∃ xs : List V, SqT K H a xs ∧ xs.length = i⟩
theorem turn_enumT {P : Program} {w : World} {K : PySem.W.Frag} {elts : List Expr} {kk : Nat} {tpos : Pos} (a e it : Addr) :
    Turn P w K (.Tuple elts kk tpos) (Itet K a) [e, it] e (fun i h => (∃ old, IsEnum h e it ((i : Nat) : Int) old) ∧ h.IsTupleIter it a i ∧ e ≠ it) where
  mem := by simp
  obj := fun i h st b hb => by
    obtain ⟨⟨old, he⟩, ⟨o, ho, hc, hd⟩, _⟩ := st
    have two : b = e ∨ b = it := by simpa using hb
    rcases two with rfl | rfl
    · exact ⟨_, he, fun v q => nomatch q⟩
    · exact ⟨o, ho, fun v q => by rw [hd] at q; cases q⟩
  keep := fun i h h' st k => ⟨st.1.imp fun _ he => k e (by simp) _ he, st.2.1.at fun o q => k it (by simp) o q, st.2.2⟩
  item := by
    intro X hP hw hK hc i pins s σ H E I hf st hg
    subst hP hw hK
    obtain ⟨⟨old, he⟩, hit, hne⟩ := st
    obtain ⟨xs, x, hq, hx⟩ := hg
    obtain ⟨its, rv, p, hz⟩ := I.tuple hq
    have pt : s.heap.IsTuple a its.toArray := p
    have lts : i < its.toArray.size := by rw [List.size_toArray, ← rv.length]; exact (List.getElem?_eq_some_iff.mp hx).1
    have hel : e < s.heap.objs.size := Heap.lt_size he
    have hil : it < s.heap.objs.size := by obtain ⟨_, q, _⟩ := hit; exact Heap.lt_size q
    have nea : e ≠ a := by
      rintro rfl
      obtain ⟨o, ho, hc', _⟩ := pt
      rw [show s.heap.get? e = _ from he] at ho
      cases ho
      injection hc' with z
      exact absurd z (by decide)
    have nia : a ≠ it := by
      rintro rfl
      obtain ⟨o, ho, hc', _⟩ := pt
      obtain ⟨o', ho', hc'', _⟩ := hit
      rw [ho] at ho'
      cases ho'
      rw [hc'] at hc''
      injection hc'' with z
      exact absurd z (by decide)
    have D := Draws.tuple (prog := X.prog) (w := X.w) (A := X.A.in1) (I.ok.hd hc) it a nia its.toArray
    refine wpAny_pyNext_enum_itemD D he ⟨hit, pt⟩ lts hne (by simp [hne, nea]) fun u h' tk hu ho hst hT hsz hk => ?_
    obtain ⟨u', hu', ru⟩ := rv.get hx
    obtain rfl : u = u' := by
      have q : its.toArray[i]? = some u := hu
      rw [List.getElem?_toArray, hu'] at q
      exact (Option.some.inj q).symm
    refine ⟨_, rfl, wpAny_letOwnedTupleGo_enum (s := { s with heap := h', toks := tk + 1 }) ho fun h'' he' sb => ?_⟩
    have hT2 : h''.get? s.heap.objs.size = some { cls := .type "tuple", data := .seq #[.int i tk, u] } := (sb.2 _ (Nat.ne_of_gt hel)).trans hT
    have new : ObjOk X.prog X.w (upd H s.heap.objs.size (.tup [.int (i : Nat), x])) h'' s.heap.objs.size (.tup [.int (i : Nat), x]) :=
      ⟨by show 2 ≤ sizeLine; decide, [.int i tk, u], .cons ⟨_, rfl⟩ (.cons ru .nil), ⟨_, hT2, rfl, _, rfl⟩⟩
    have I1 : Inv X pins σ (upd H s.heap.objs.size (.tup [.int (i : Nat), x])) { s with heap := h'', toks := tk + 1 } :=
      I.turnedNew (ch := [e, it]) (fun b ob hb q => (sb.2 b (fun z => hb (by simp [z]))).trans (hk b ob (fun z => hb (by simp [z])) (fun z => hb (by simp [z])) q)) hf (Nat.le_refl _) new
    refine ⟨.ref s.heap.objs.size, _, I1, rfl, ⟨_, x, rfl, I.hok.fresh (Nat.le_refl _), rfl, fun ys hy => by rw [I.tuple_inj hy hq]; exact hx⟩, ⟨⟨u, ?_⟩, hst.1.at fun o q => (sb.2 it (Ne.symm hne)).trans q, hne⟩, fun b hb => ?_⟩
    · have e1 : ((i + 1 : Nat) : Int) = (i : Int) + 1 := by omega
      rw [e1]
      exact he'
    · have two : b = e ∨ b = it := by simpa using hb
      have hb' : b < s.heap.objs.size := by rcases two with rfl | rfl <;> assumption
      rw [upd_ne (Nat.ne_of_lt hb')]
      exact (hf b hb).1
  done := by
    intro X hP hw hK hc i pins s σ H E I hf st hg
    subst hP hw hK
    obtain ⟨⟨old, he⟩, hit, hne⟩ := st
    obtain ⟨xs, hq, hx⟩ := hg
    obtain ⟨its, rv, p, hz⟩ := I.tuple hq
    have pt : s.heap.IsTuple a its.toArray := p
    obtain ⟨f0, f1, f2, f3, f4, f5⟩ := hf it (by simp)
    have nia : a ≠ it := by
      rintro rfl
      obtain ⟨o, ho, hc', _⟩ := pt
      obtain ⟨o', ho', hc'', _⟩ := hit
      rw [ho] at ho'
      cases ho'
      rw [hc'] at hc''
      injection hc'' with z
      exact absurd z (by decide)
    have D := Draws.tuple (prog := X.prog) (w := X.w) (A := X.A.in1) (I.ok.hd hc) it a nia its.toArray
    have hi : its.toArray.size = i := by rw [List.size_toArray, ← rv.length]; exact hx
    exact wpAny_pyNext_enum_endD D he (by rw [hi]; exact ⟨hit, pt⟩) fun h' eb => ⟨rfl, I.turned (t' := s.toks) (fun b o hb q => eb b o hb q) f0 f1 f3 f4 f5⟩
  self := fun A i s Q E st h => let ⟨⟨_, he⟩, _⟩ := st; wpAny_pyIter_enum he h
/-- enumerate(xs), xs a list or a tuple -/
def iEnumS (K : PySem.W.Frag) (ta : TA) : TI := fun σ H R => ta σ H fun vs H1 => ∃ a, vs = [.ref a] ∧ ((∃ xs, SqL K H1 a xs ∧ R (Ite K a) H1) ∨ ∃ xs, SqT K H1 a xs ∧ R (Itet K a) H1)
theorem pi_enumS {X : Cx} {e : Expr} {ta : TA} {p pos tpos : Pos} {elts : List Expr} {kk : Nat} (hg : Gl X "enumerate") (hm : X.mg "enumerate" = none) (ha : PA X [e] ta) (hs : starEach [e] X.env = [(false, eval e X.env)] := by rfl) :
    PI X (.Tuple elts kk tpos) (.Call (.Name "enumerate" p) [e] [] pos) (iEnumS X.K ta) := by
  refine ⟨fun pins s σ H R I h => ?_⟩
  refine Call_ (ld_blt I hg hm boot_enumerate (callWith_type1 (thn (ha.run pos pins s σ H _ I h) fun us s1 ⟨vs, H1, I1, r1, q1⟩ => ?_) hs rfl))
  obtain ⟨a, ex, q⟩ := q1
  subst ex
  obtain ⟨u, rfl, ru⟩ := vals1 r1
  cases ru
  have fp : ∀ b ∈ [s1.heap.objs.size + 1, s1.heap.objs.size], FpOk X pins H1 b := fun b hb => by
    have hle : s1.heap.objs.size ≤ b := by
      rcases List.mem_cons.mp hb with z | z
      · rw [z]; exact Nat.le_succ _
      · rw [List.mem_singleton.mp z]; exact Nat.le_refl _
    exact I1.fpOk hle (I1.hok.fresh hle)
  rcases q with ⟨xs, hq, q⟩ | ⟨xs, hq, q⟩
  · obtain ⟨its, rv, pl, hz⟩ := I1.list hq
    refine call_enumerate_list pl.isList fun h' he hit hsz hk => wpAny_pyIter_enum he ?_
    exact ⟨s1.heap.objs.size + 1, [s1.heap.objs.size + 1, s1.heap.objs.size], _, _, H1, rfl, I1.kept (t' := s1.toks) hk, turn_enum a (s1.heap.objs.size + 1) s1.heap.objs.size, ⟨⟨.none, he⟩, hit, Nat.succ_ne_self _⟩, fp, q⟩
  · obtain ⟨its, rv, pt, hz⟩ := I1.tuple hq
    refine call_enum_tuple (show s1.heap.IsTuple a its.toArray from pt) fun h' he hit hk => wpAny_pyIter_enum he ?_
    exact ⟨s1.heap.objs.size + 1, [s1.heap.objs.size + 1, s1.heap.objs.size], _, _, H1, rfl, I1.kept (t' := s1.toks) hk, turn_enumT a (s1.heap.objs.size + 1) s1.heap.objs.size, ⟨⟨.none, he⟩, hit, Nat.succ_ne_self _⟩, fp, q⟩
end K30
set_option maxHeartbeats 4000000
/-! own exceptions straight over OverflowError whose __init__ stores: as HandS.ExcInit says it for ValueError -/
namespace K30
namespace OvX
open PySem PySem.W PySem.Calls PyProof.Rows PySem.HandSPX
abbrev ovTail : List Value := [.type "OverflowError", .type "ArithmeticError", .type "Exception", .type "BaseException", .type "object"]
section
open Builtin Builtin.ObjectAttr
variable {prog : Program} {w : World} {A : Around} {E : Value → Shared → Prop} {R : Result → Shared → Prop} {hp : Heap} {g : Array GenState} {d : Drawn} {t : Nat} {os : OsState}
theorem ov_osa {K : W.Frag} {name : Str} {tk : Tok} {v : Value} {x C : Addr} {fv : Array Value} {cd : ClassData}
    (X : K.In hp) (hx : hp.get? x = some { cls := .ref C, data := .fields fv }) (hcd : W.clsIn K C = some cd) (hm : cd.mro = .ref C :: ovTail) (hh : cd.hasDict = true) (ha : W.findIn K (.ref C) name = some none)
    (hq : ∀ h' tk' dx, (∀ b o, b ≠ x → hp.get? b = some o → h'.get? b = some o) → hp.objs.size ≤ dx → dx ≠ x → h'.get? x = some { cls := .ref C, dict := some dx, data := .fields fv } →
      h'.Ns1 dx (fun y => if y = name then some v else none) → R (.ok (.ret .none)) ⟨h', g, d, tk', os⟩) :
    codeAny (model prog w) A (.call (.builtin "object.__setattr__") ⟨[.ref x, .str name tk, v], []⟩) R ⟨hp, g, d, t, os⟩ := by
  have J : W.InstAt hp x { cls := .ref C, data := .fields fv } C none := ⟨hx, rfl, rfl, trivial⟩
  have SO := PySem.F.store_object
  have ne : cd.mro.isEmpty = false := by rw [hm]; rfl
  have obj : cd.mro.contains (.type "object") = true := by rw [hm, List.contains_cons]; exact Bool.or_eq_true_iff.mpr (.inr (by decide +kernel))
  have apart : x ≠ hp.objs.size := Nat.ne_of_lt (Heap.lt_size hx)
  have isO : W.Looks (model prog w) hp (isInstance (.ref x) (.type "object")) true := J.type.andThen (W.looks_mroIn X (by unfold W.mroIn; rw [hcd, Option.bind_some, if_neg (by rw [ne]; decide), obj]))
  refine codeAny_call_builtin SO.slot.plain SO.entry (@W.check_slot (model prog w) _ _ ⟨hp, g, d, t, os⟩ "object.__setattr__" "object" "__setattr__" (.ref x) [.str name tk, v] [] _ SO.kind SO.split isO (SO.args (.ref x) (.str name tk) v) ?_)
  have lm : W.Looks (model prog w) hp (mroOf (.ref C)) cd.mro := (W.looks_clsIn X hcd).andThen .now
  have ln : W.Looks (model prog w) hp (storeTaker? none) none := .now
  have lc : W.Looks (model prog w) hp (classData C) cd := W.looks_clsIn X hcd
  have pass : refuseLoop (.ref x) "__setattr__" cd.mro = pure () := by rw [hm, refuseLoop_ref]; exact PySem.F.store_OverflowError.passes _
  rw [W.osa_eq, refuse_eq]
  refine wpAny_bind (wpAny_bind (J.type.at (wpAny_bind (lm.at ?_))))
  rw [pass]
  refine wpAny_pure (wpAny_bind (J.type.at (wpAny_bind ((W.looks_findIn X ha).at (wpAny_bind (ln.at ?_))))))
  show wpAny _ _ (storeInOwnDict (.ref x) (.ref C) (.str name tk) name v false) _ _ _
  obtain ⟨nm, bs, mro, ns, qn, hd, sn, sb, ab, col, del⟩ := cd
  dsimp only at hh
  subst hh
  unfold storeInOwnDict ownDictForStores
  repeat (first | with_reducible refine store_in_new ?_ ?_ | with_reducible refine wpAny_loadPart_at hx ?_ | with_reducible refine lc.at ?_ | wp_step)
  · exact ⟨_, #[], _, (Heap.get?_update_ne _ _ _ _ apart.symm).trans (Heap.get?_push_at rfl rfl), rfl, fun e he => absurd he (by simp), fun _ => rfl⟩
  · intro h' tk' hn' hs
    have hx₁ : (hp.push { cls := .type "dict", data := .dict #[] }).get? x = some { cls := .ref C, data := .fields fv } := Heap.get?_push_of_some _ hx
    refine hq h' tk' hp.objs.size (fun b o hb ho => ?_) (Nat.le_refl _) apart.symm ?_ hn'
    · exact (hs.2 b (Nat.ne_of_lt (Heap.lt_size ho))).trans ((Heap.get?_update_ne _ _ _ _ hb).trans (Heap.get?_push_of_some _ ho))
    · exact (hs.2 x apart).trans (Heap.get?_update_self _ hx₁ rfl)
end
end OvX
open PySem PySem.Spec PyProof.Rows L2 K30.OvX
/-- what the written part says of such a class -/
structure OvC (K : PySem.W.Frag) (C : Addr) : Prop where
  cls : ∃ nm q N bs sn sub ab col dd k0 k1 k2 k3 k5, K.lookup C = some (excClassObj nm q C N bs ovTail true sn sub ab col dd k0 k1 k2 k3 k5 "OverflowError.__new__")
  sa : PySem.W.findIn K (.ref C) "__setattr__" = some (some (.builtin "object.__setattr__"))
  exC : PySem.W.subIn K (.ref C) (.type "BaseException") = some true
  tyC : PySem.W.typeIn K (.ref C) = some (.type "type")
  kC : PySem.W.keepIn K (.ref C) = true
section
variable {X : Cx} {pins : List (Addr × Obj)} {σ : L2.St} {H : Hp} {s : Shared} {a C dx : Addr} {f : Str} {y : V} {u : Value} {fs : List (Str × V)} {Q : Unit → Shared → Prop} {E : Value → Shared → Prop} {A : Around}
theorem ov_new (T : OvC X.K C) (I : Inv X pins σ H s) (e : H a = some (exo a C none)) (hno : PySem.W.findIn X.K (.ref C) f = some none) (ry : RelV y u)
    (h : ∀ dx s', H dx = none → dx ≠ a → Inv X pins σ (upd (upd H dx (exd dx [(f, y)])) a (exo a C (some dx))) s' → Q () s') : wpAny (model X.prog X.w) A (setAttr (.ref a) f u) Q E s := by
  obtain ⟨nm, q, N, bs, sn, sub, ab, col, dd, k0, k1, k2, k3, k5, hC⟩ := T.cls
  have hcl : PySem.W.clsIn X.K C = some { name := nm, bases := bs, mro := .ref C :: ovTail, ns := N, qualname := q, hasDict := true, slotNames := sn, subclasses := sub, abstract := ab, collection := col, hasDel := false } := by unfold PySem.W.clsIn; rw [hC] <;> rfl
  obtain ⟨t1, ho⟩ := exo_at I.hok e
  obtain ⟨hp, g, d, t, os⟩ := s
  refine PySem.W.set_plain I.kIn (ox := { cls := .ref C, dict := none, data := .fields #[.ref t1, .none, .none, .none, .bool false, .none] }) (od := none) ⟨ho, rfl, rfl, trivial⟩ T.sa ?_
  refine ov_osa I.kIn ho hcl rfl rfl hno (fun h' tk' dx k dn dne hx hn => ?_)
  have hnd : H dx = none := I.hok.fresh dn
  have old : ∀ {b : Addr} {o : Obj}, hp.get? b = some o → b ≠ dx := fun {b o} q => Nat.ne_of_lt (Nat.lt_of_lt_of_le (Heap.lt_size q) dn)
  have na : ∀ {b : Addr}, H b = none → b ≠ a := fun {b} n z => by rw [z, e] at n; cases n
  have U : Un X.fs [] H (upd (upd H dx (exd dx [(f, y)])) a (exo a C (some dx))) hp h' := {
    keep := fun b o q n _ _ => k b o (na n) q
    slot := fun b o q n _ _ => ⟨o.slots, k b o (na n) q⟩
    free := fun b o q n _ => by rw [upd_ne (na n), upd_ne (old q)]; exact n
    there := fun b o q _ => by
      by_cases hb : b = a
      · exact ⟨_, by rw [hb]; exact hx⟩
      · exact ⟨o, k b o hb q⟩
    tups := fun b xs q => by rw [upd_ne (at_ne e q exo_tup), upd_ne (ne_of_none q hnd)]; exact q
    frzs := fun b o v q => by rw [upd_ne (at_ne e q exo_frz), upd_ne (ne_of_none q hnd)]; exact q
    tbls := fun b ps q => ⟨#[], by rw [upd_ne (at_ne e q exo_tbl), upd_ne (ne_of_none q hnd), q]; simp⟩ }
  refine h dx _ hnd dne (I.un (t' := tk') U fun b o q => ?_)
  by_cases hb : b = a
  · subst hb
    rw [upd_same] at q
    cases q
    exact exo_ok hx
  · rw [upd_ne hb] at q
    by_cases hd : b = dx
    · subst hd
      rw [upd_same] at q
      cases q
      exact exd_ok hn (relO_put (fs := []) ry fun g => True.intro)
    · rw [upd_ne hd] at q
      refine (I.hok b o q).stay (fun c v hc z => k c v ?_ z) (fun c hc => ?_) fun c xs hc => ?_
      · rcases hc with hc | hc
        · rw [hc]; exact hb
        · exact at_ne e hc exo_own
      · rw [upd_ne (at_ne e hc exo_own), upd_ne (ne_of_none hc hnd)]; exact hc
      · rw [upd_ne (at_ne e hc exo_tup), upd_ne (ne_of_none hc hnd)]; exact hc
end
/-- self.f = e, the only one -/
def tOvS (K : PySem.W.Frag) (f : Str) (to te : TE) : TS := fun D σ H => te σ H fun y H1 => to σ H1 fun x H2 => ∃ a C : Addr, x = .ref a ∧ OvC K C ∧ PySem.W.findIn K (.ref C) f = some none ∧
  H2 a = some (exo a C none) ∧ ∀ dx, H2 dx = none → dx ≠ a → D.nx σ (upd (upd H2 dx (exd dx [(f, y)])) a (exo a C (some dx)))
section
variable {X : Cx} {o e : Expr} {es : List Expr} {to te : TE} {ta : TA} {f : Str} {p p' p1 p2 pos : Pos}
theorem ps_ovs (ho : PE X o to) (he : PE X e te) (hs : swapsWith e (some (.Attribute o f p')) pos.line X.env = pure false := by rfl) : PS X (.Assign [.Attribute o f p'] e pos) (tOvS X.K f to te) := by
  refine ⟨fun pins s σ H D I h => ?_⟩
  refine plainObj_wpAny_Assign_Attribute (thn (he.run pins s σ H _ I h) fun v s1 ⟨y, H1, I1, r1, q1⟩ => thn (ho.run pins s1 σ H1 _ I1 q1) fun u s2 ⟨x, H2, I2, r2, a, C, ex, T, hno, ea, q⟩ => ?_) hs
  subst ex
  obtain rfl : u = Value.ref a := r2
  exact ov_new T I2 ea hno r1 fun dx s' n ne J => ⟨σ, _, J, q dx n ne⟩
/-- C(e, ..), C over OverflowError -/
theorem pmk_ov {CX : CXT} {x : Str} {C fI : Addr} {k : Nat} {fd : FuncData} {ps : List Str} {sp : Sp} {ds : List Value} {dvs : List V} (T : OvC X.K C) (iC : PySem.W.findIn X.K (.ref C) "__init__" = some (some (.ref fI))) (tI : PySem.W.typeIn X.K (.ref fI) = some (.type "function"))
    (F1 : FnOk X.prog X.w X.K X.mg X.base CX k fI fd ps sp) (hr : Room (k + 1) X.A) (hb : Binds X.K fd ps ds) (hd : Vals dvs ds) (hx : Passes CX X (fun _ _ _ => False)) (hg : Gl X x) (hm : X.mg x = some (.ref C)) (ha : PA X (e :: es) ta)
    (hdb : (x == ("__debug__" : Str)) = false := by decide) (he : starEach (e :: es) X.env = (false, eval e X.env) :: starEach es X.env := by rfl) (hpl : (backTo pos (starEach es X.env)).any (·.1) = false := by rfl) :
    PMk X (.Call (.Name x p) (e :: es) [] pos) (tMkO C sp dvs ta) := by
  intro pins s σ H Q I h
  obtain ⟨nm, q, N, bs, sn, sub, ab, col, dd, k0, k1, k2, k3, k5, hC⟩ := T.cls
  refine wpAny_Call_Name_kw (ld_glob I hg hm ?_ hdb)
  refine PySem.W.callWith_K (h₀ := X.base) I.ok.mod.kin T.kC (thn (ha.run pos pins s σ H _ I h) fun us s1 ⟨vs, H1, I1, r1, hz, q1⟩ => ⟨I1.kIn, ?_⟩) he hpl
  show wpAny _ _ (call (.ref C) us) _ _ _
  obtain ⟨hp, g, dr, tk, os⟩ := s1
  have up : hp.objs.size ≤ hp.objs.size + 1 := Nat.le_succ _
  have hq := q1 (hp.objs.size + 1) (I1.hok.fresh up)
  have kk : ∀ b o, hp.get? b = some o → ((hp.push (PySem.W.kdv_tup us)).push (PySem.HandSPX.excO C hp.objs.size)).get? b = some o := fun b o e => Heap.get?_push_of_some _ (Heap.get?_push_of_some _ e)
  have hget : ((hp.push (PySem.W.kdv_tup us)).push (PySem.HandSPX.excO C hp.objs.size)).get? (hp.objs.size + 1) = some (PySem.HandSPX.excO C hp.objs.size) := by heap_get
  have I2 : Inv X pins σ (upd H1 (hp.objs.size + 1) (exo (hp.objs.size + 1) C none)) ⟨(hp.push (PySem.W.kdv_tup us)).push (PySem.HandSPX.excO C hp.objs.size), g, dr, tk, os⟩ :=
    I1.laid (t' := tk) (a := hp.objs.size + 1) (o := exo (hp.objs.size + 1) C none) kk up (exo_ok hget)
  have r2 : Vals (V.ref (hp.objs.size + 1) :: (vs ++ dvs)) (Value.ref (hp.objs.size + 1) :: (us ++ ds)) := .cons rfl (r1.append hd)
  have hl : (Value.ref (hp.objs.size + 1) :: us ++ ds).length = ps.length := by
    have e := r2.length
    rw [F1.len _ _ _ _ hq] at e
    exact e.symm
  have hus : us.length ≤ sizeLine := by rw [← Paired.length r1, sizeLine_eq]; omega
  refine wpAny_call (PySem.HandSPX.call_own PySem.F.excBase_OverflowError (fun Y => rfl) (I1.kIn _ _ hC) (PySem.W.looks_findIn I1.kIn iC) (fun self => PySem.W.bind_fn I1.kIn self tI) hus
    (codeAny_mono (F1.run _ X.stack _ _ ⟨Value.ref (hp.objs.size + 1) :: us, []⟩ (Value.ref (hp.objs.size + 1) :: (us ++ ds)) _ _ (fun _ _ _ => False) (hr.make C us []) (I2.env0.make C us []) (hb _ (Value.ref (hp.objs.size + 1) :: us) I2.kIn hl) r2 hq) fun r s' hq' => ?_))
  cases r with
  | error er => exact hx pins σ _ _ er s' I2 hq'
  | ok fl =>
    cases fl with
    | ret u =>
      obtain ⟨v, H2, os2, bare2, un2, hok2, rv, ev, d, fs, ea, ed, hd1, q2⟩ := hq'
      subst ev
      obtain ⟨h2, g2, d2, t2, os'⟩ := s'
      exact ⟨rv, mk_end (raises_own T.exC T.tyC) I1 up kk un2 hok2 os2 bare2 ea ed hd1 q2⟩
    | next => exact False.elim hq'
    | brk => exact False.elim hq'
    | cont => exact False.elim hq'
end
end K30
set_option maxHeartbeats 4000000
/-! several except clauses, each with or without «as n» (HandS.TryMany has clauses without, HandS.Exc one with) -/
namespace K30
open PySem PySem.Spec PyProof.Rows L2
abbrev Clause := Value × Option Nat × (Addr → Value → Option Addr → TS)
/-- the suite's ends where slot i held the exception -/
def gone (D : Ends) (i : Nat) : Ends := { nx := fun σ' H' => D.nx (σ'.set i none) H', rt := D.rt, bk := fun σ' H' => D.bk (σ'.set i none) H', ct := fun σ' H' => D.ct (σ'.set i none) H' }
def wMix (K : PySem.W.Frag) (Wout : WX) (D : Ends) : List Clause → WX
  | [] => Wout
  | (c, none, ts) :: r => fun cls d σ H => ∃ b, PySem.W.exmOne K cls c = some b ∧ (b = true → ∀ a, H a = none → ts a cls d D σ H) ∧ (b = false → wMix K Wout D r cls d σ H)
  | (c, some i, ts) :: r => fun cls d σ H => ∃ b, PySem.W.exmOne K cls c = some b ∧ (b = true → ∀ a, H a = none → ts a cls d (gone D i) (σ.set i (some (.ref a))) H) ∧ (b = false → wMix K Wout D r cls d σ H)
inductive HdsM (X : Cx) : List ExceptHandler → List Clause → Prop
  | nil : HdsM X [] []
  | bare {x : Str} {c : Value} {ts : Addr → Value → Option Addr → TS} {b₀ : Stmt} {suite : List Stmt} {np pos' : Pos} {hds : List ExceptHandler} {l : List Clause} (hc : Names X x c)
      (hsu : ∀ (a : Addr) (oe : Obj) (cls : Value) (d : Option Addr) (pn : List (Addr × Obj)), Zc cls d oe → (∃ vs, oe.data = .fields vs) → PSs (X.suite a ((a, oe) :: pn)) (b₀ :: suite) (ts a cls d)) (r : HdsM X hds l) :
      HdsM X (.ExceptHandler (some (.Name x np)) none (b₀ :: suite) pos' :: hds) ((c, none, ts) :: l)
  | named {x n : Str} {c : Value} {i : Nat} {ts : Addr → Value → Option Addr → TS} {b₀ : Stmt} {suite : List Stmt} {np pos' : Pos} {hds : List ExceptHandler} {l : List Clause} (hN : X.N.Nodup) (hi : X.N[i]? = some n) (hln : X.env.kindOf n = some .local) (hc : Names X x c)
      (hsu : ∀ (a : Addr) (oe : Obj) (cls : Value) (d : Option Addr) (pn : List (Addr × Obj)), Zc cls d oe → (∃ vs, oe.data = .fields vs) → PSs (X.suite a ((a, oe) :: pn)) (b₀ :: suite) (ts a cls d)) (r : HdsM X hds l) :
      HdsM X (.ExceptHandler (some (.Name x np)) (some n) (b₀ :: suite) pos' :: hds) ((c, some i, ts) :: l)
section
variable {X : Cx} {body : List Stmt} {h₀ : ExceptHandler} {hds : List ExceptHandler} {l : List Clause} {pos : Pos} {tb : WX → TS} {Wout : WX}
theorem ps_try_mix (hs : X.stack = X.env :: X.outer) (hf : X.env.frame = some X.env.locals) (tk : Takes X Wout)
    (hb : ∀ (W : WX) (pn : List (Addr × Obj)) (xe : Value → Shared → Prop), Takes (X.tr pn xe) W → PassesOwn (model X.prog X.w) X.A X.env xe → PSs (X.tr pn xe) body (tb W))
    (hh : HdsM X (h₀ :: hds) l) : PS X (.Try body (h₀ :: hds) [] [] pos) (fun D σ H => tb (wMix X.K Wout D l) D σ H) := by
  refine ⟨fun pins s σ H D I h => ?_⟩
  have ok := I.ok
  have frs0 : X.A.frames = some (X.env :: X.outer) := by rw [ok.frames, hs]
  refine wpAny_Try_except ?_
  refine wpAny_mono ((hb (wMix X.K Wout D l) (X.pn ++ pins) (fun e s₁ => wpAny (model X.prog X.w) X.A (noteFrame e X.env) (fun _ s₂ => wpAny (model X.prog X.w) X.A (setFlight e none) (fun _ s₃ =>
    wpAny (model X.prog X.w) X.A (handleBy e X.env (h₀ :: hds)) (SP X pins D) X.xe s₃) X.xe s₂) X.xe s₁) (fun u s' air => ?_) PassesOwn.looking).run [] s σ H D (I.toTry _) h) (fun f s1 fin => ?_) (fun e s1 he => he)
  · obtain ⟨a, B, sI, pins', σ', H', cls, d, rfl, J', nb, up, sky, na, os, ag, wish⟩ := air
    have J : Inv X pins σ' H' sI := J'.ofTry ok
    have sky' : Sky B (X.env :: X.outer) a (Zc cls d) X.env.locals s'.heap := by rw [← hs]; exact sky
    show wpAny (model X.prog X.w) X.A (noteFrame (.ref a) X.env) _ _ _
    refine Sky.land Zc.steady frs0 hf sky' fun h3 fl3 up3 => ?_
    have J3 : Inv X pins σ' H' { s' with heap := h3 } := J.landed nb fl3.1 (up.trans up3) os ag
    obtain ⟨oe3, vs3, he3, hz3, hd3⟩ := fl3.there
    have off : ∀ {h : Heap} {o : Obj} {vs : Array Value}, h.FunFrames B (X.env :: X.outer) → h.get? a = some o → o.data = .fields vs → a ∉ frs (X.env :: X.outer) := fun {h o vs} ff e dd hm => by
      obtain ⟨_, o', e', hnf⟩ := ff.mem hm
      rw [e] at e'; cases e'
      exact hnf _ dd
    have nfr := off fl3.2.2.1 he3 hd3
    have nL : a ≠ X.env.locals := fun z => nfr (List.mem_filterMap.mpr ⟨X.env, List.mem_cons_self, by rw [hf, z]⟩)
    have nF : a ∉ X.fs := fun hm => by
      obtain ⟨e, he, q⟩ := List.mem_filterMap.mp hm
      exact nfr (List.mem_filterMap.mpr ⟨e, List.mem_cons_of_mem _ he, q⟩)
    have S3 := J3.suite he3 hd3 na nL nF
    have tested : ∀ {x : Str} {c : Value} {np : Pos}, Names X x c → ∀ {Q : Value → Shared → Prop} {E : Value → Shared → Prop}, Q c { s' with heap := h3 } → wpAny (model X.prog X.w) (X.A.mark (some (.ref a))) (eval (.Name x np) X.env) Q E { s' with heap := h3 } := fun {x c np} hc {Q E} q => by
      obtain ⟨hg, hdbg, hm | ⟨hm, hv, hnn⟩⟩ := hc
      · exact ld_glob (X := X.suite a ((a, oe3) :: (X.pn ++ pins))) S3 hg hm q hdbg
      · exact ld_blt (X := X.suite a ((a, oe3) :: (X.pn ++ pins))) S3 hg hm hv q hnn hdbg
    have kind : PySem.W.Looks (model X.prog X.w) h3 (typeOf (.ref a)) cls := fun A Q E s k q => wpAny_typeOf_ref (k _ _ he3) (by rw [hz3.1]; exact q)
    have go : ∀ {hds' : List ExceptHandler} {l' : List Clause}, HdsM X hds' l' → wMix X.K Wout D l' cls d σ' H' → wpAny (model X.prog X.w) X.A (handleBy (.ref a) X.env hds') (SP X pins D) X.xe { s' with heap := h3 } := by
      intro hds' l' hk
      induction hk with
      | nil =>
        intro w
        refine wpAny_handleBy_nil ?_
        obtain ⟨k1, k2, k3, oe, vs, T, oT, ts', he, hz, hd, h1, hr⟩ := id fl3
        unfold PySem.passOn
        refine wpAny_bind (wpAny_field he hd h1 ?_)
        rw [if_neg (show ¬ ((Value.ref T == Value.none) = true) from by simp)]
        have fin : wpAny (model X.prog X.w) X.A (setFlight (.ref a) X.env.frame) (fun _ s4 => wpAny (model X.prog X.w) X.A (throw (.ref a) : Sem Flow) (SP X pins D) X.xe s4) X.xe { s' with heap := h3 } := by
          rw [hf]
          refine HandSPX.setFlight_upZ fl3 fun h4 hh4 up4 => wpAny_throw (tk _ _ ?_)
          exact ⟨a, B, sI, pins, σ', H', cls, d, rfl, J, nb, (up.trans up3).trans up4, .inr (.inr (by rw [hs]; exact hh4)), na, os, ag, w⟩
        first
          | exact wpAny_bind (wpAny_pure (wpAny_bind fin))
          | exact wpAny_bind fin
      | @bare x c ts b₀ suite np pos' hds2 l2 hc hsu r ih =>
        intro w
        obtain ⟨b, hb1, yes, no⟩ := w
        refine wpAny_handleBy_cons (codeAny_handlers_test ?_) (by intro q; cases q)
        refine tested hc ((PySem.W.exm_one (M := model X.prog X.w) J3.kIn kind hb1).here ?_)
        cases b with
        | false =>
          show wpAny _ X.A (handleBy (.ref a) X.env hds2) _ _ _
          exact ih (no rfl)
        | true =>
          refine codeAny_handlers_suite ?_
          refine HandSPX.lands_againZ fl3 fun h4 fl4 up4 => ?_
          have J4 : Inv X pins σ' H' { s' with heap := h4 } := J.landed nb fl4.1 ((up.trans up3).trans up4) os ag
          obtain ⟨oe4, vs4, he4, hz4, hd4⟩ := fl4.there
          have S4 := J4.suite he4 hd4 na nL nF
          refine wpAny_mono ((hsu a oe4 cls d (X.pn ++ pins) hz4 ⟨_, hd4⟩).run [] _ _ H' _ S4 (yes rfl a na)) (fun f s6 out => ?_) (fun _ _ z => False.elim z)
          cases f with
          | ret u =>
            obtain ⟨v6, σ6, H6, S6, r6, q6⟩ := out
            exact ⟨_, _, _, S6.unsuite ok, r6, q6⟩
          | next =>
            obtain ⟨σ6, H6, S6, q6⟩ := out
            exact ⟨_, _, S6.unsuite ok, q6⟩
          | brk =>
            obtain ⟨σ6, H6, S6, q6⟩ := out
            exact ⟨_, _, S6.unsuite ok, q6⟩
          | cont =>
            obtain ⟨σ6, H6, S6, q6⟩ := out
            exact ⟨_, _, S6.unsuite ok, q6⟩
      | @named x n c i ts b₀ suite np pos' hds2 l2 hN hi hln hc hsu r ih =>
        intro w
        obtain ⟨b, hb1, yes, no⟩ := w
        refine wpAny_handleBy_cons (codeAny_handlers_test ?_) (by intro q; cases q)
        refine tested hc ((PySem.W.exm_one (M := model X.prog X.w) J3.kIn kind hb1).here ?_)
        cases b with
        | false =>
          show wpAny _ X.A (handleBy (.ref a) X.env hds2) _ _ _
          exact ih (no rfl)
        | true =>
          refine codeAny_handlers_suite_as ?_
          refine HandSPX.lands_againZ fl3 fun h4 fl4 up4 => ?_
          have J4 : Inv X pins σ' H' { s' with heap := h4 } := J.landed nb fl4.1 ((up.trans up3).trans up4) os ag
          obtain ⟨oe4, vs4, he4, hz4, hd4⟩ := fl4.there
          have S4 := J4.suite he4 hd4 na nL nF
          refine store_ok (X := X.suite a ((a, oe4) :: (X.pn ++ pins))) (v := .ref a) S4 hN hi (.inl hln) rfl (fun s5 S5 => ?_) (.inr hln)
          refine wpAny_mono ((hsu a oe4 cls d (X.pn ++ pins) hz4 ⟨_, hd4⟩).run [] s5 _ H' _ S5 (yes rfl a na)) (fun f s6 out => ?_) (fun _ _ z => False.elim z)
          have forget : ∀ {σ6 : L2.St} {H6 : Hp} {Q : Shared → Prop}, Inv (X.suite a ((a, oe4) :: (X.pn ++ pins))) [] σ6 H6 s6 → (∀ s7, Inv X pins (σ6.set i none) H6 s7 → Q s7) →
              wpAny (model X.prog X.w) X.A (do bindName X.env n .none; unbindBehindTheSuite X.env n pos') (fun _ s7 => Q s7) X.xe s6 := fun {σ6 H6 Q} S6 hq => gone_ok (S6.unsuite ok) hN hi hln hq
          cases f with
          | ret u =>
            obtain ⟨v6, σ6, H6, S6, r6, q6⟩ := out
            exact forget S6 fun s7 J7 => ⟨_, _, _, J7, r6, q6⟩
          | next =>
            obtain ⟨σ6, H6, S6, q6⟩ := out
            exact forget S6 fun s7 J7 => ⟨_, _, J7, q6⟩
          | brk =>
            obtain ⟨σ6, H6, S6, q6⟩ := out
            exact forget S6 fun s7 J7 => ⟨_, _, J7, q6⟩
          | cont =>
            obtain ⟨σ6, H6, S6, q6⟩ := out
            exact forget S6 fun s7 J7 => ⟨_, _, J7, q6⟩
    exact go hh wish
  · cases f with
    | ret u =>
      obtain ⟨v, σ', H', J', r, q⟩ := fin
      exact ⟨v, σ', H', J'.ofTry ok, r, q⟩
    | next =>
      obtain ⟨σ', H', J', q⟩ := fin
      exact wpAny_execs_nil ⟨σ', H', J'.ofTry ok, q⟩
    | brk =>
      obtain ⟨σ', H', J', q⟩ := fin
      exact ⟨σ', H', J'.ofTry ok, q⟩
    | cont =>
      obtain ⟨σ', H', J', q⟩ := fin
      exact ⟨σ', H', J'.ofTry ok, q⟩
end
end K30
set_option maxHeartbeats 4000000
namespace K30
open PySem PySem.Spec PyProof.Rows L2
/-! x == y where x is a list or an int and the answer needs no item -/
def rEqQ (K : PySem.W.Frag) : R2 := fun x y H Q =>
  (∃ a b xs ys, x = .ref a ∧ y = .ref b ∧ SqL K H a xs ∧ SqL K H b ys ∧ ((xs.length ≠ ys.length ∧ Q (.bl false) H) ∨ (xs = [] ∧ ys = [] ∧ Q (.bl true) H))) ∨
  (∃ j, y = .int j ∧ ((∃ i, x = .int i ∧ Q (.bl (i == j)) H) ∨ (∃ a xs, x = .ref a ∧ SqL K H a xs ∧ Q (.bl false) H)))
theorem op_eqQ {X : Cx} (hu : X.A.units < cLine) : OpR X (compareOp .Eq) (rEqQ X.K) := by
  intro pins s σ H x y v u Q I rx ry h
  show wpAny (model X.prog X.w) X.A (richCompare .Eq v u) (EP X pins σ Q) X.xe s
  rcases h with ⟨a, b, xs, ys, rfl, rfl, ha, hb, q⟩ | ⟨j, rfl, q⟩
  · cases rx
    cases ry
    obtain ⟨its, r, pl, _⟩ := I.list ha
    obtain ⟨jts, r2, pl2, _⟩ := I.list hb
    rcases q with ⟨hne, q⟩ | ⟨rfl, rfl, q⟩
    · exact SeqAt.RcAt.lists_lengths pl.isList pl2.isList (by rw [List.size_toArray, List.size_toArray, ← r.length, ← r2.length]; simpa using hne) hu _ _ _ _ ⟨.bl false, H, I, rfl, q⟩
    · cases r
      cases r2
      exact SeqAt.RcAt.lists (e := fun _ => true) pl.isList pl2.isList rfl hu (fun j h1 h2 => absurd h1 (Nat.not_lt_zero _)) _ _ _ _ ⟨.bl true, H, I, rfl, q⟩
  · obtain ⟨t, rfl⟩ := ry
    rcases q with ⟨i, rfl, q⟩ | ⟨a, xs, rfl, ha, q⟩
    · obtain ⟨t', rfl⟩ := rx
      exact SeqAt.RcAt.int_int _ _ _ _ _ _ _ _ ⟨.bl (i == j), H, I, rfl, q⟩
    · cases rx
      obtain ⟨its, r, pl, _⟩ := I.list ha
      exact SeqAt.RcAt.list_int _ _ pl.isList hu _ _ _ _ ⟨.bl false, H, I, rfl, q⟩
end K30
set_option maxHeartbeats 4000000
namespace K30
open PySem PySem.Spec PyProof.Rows L2
/-! a * b of two instances of one class with its own __mul__ -/
theorem dunder_mul : PySem.dunder (Operator.info .Mult).2 = ("__mul__" : Str) := by decide +kernel
def rMulE (C : Addr) (sp : Sp) : R2 := fun x y H Q => ∃ a b dx dy fs gs, x = .ref a ∧ y = .ref b ∧ H a = some (.ins C dx fs) ∧ H b = some (.ins C dy gs) ∧ sp [.ref a, .ref b] H Q E0
theorem op_mulE {X : Cx} {CX : CXT} {k : Nat} {f C : Addr} {fd : FuncData} {ps : List Str} {sp : Sp} (F : FnOk X.prog X.w X.K X.mg X.base CX k f fd ps sp) (hr : Room k X.A) (hc : PySem.W.selfFirst X.K C = true)
    (hs : PySem.W.findIn X.K (.ref C) "__mul__" = some (some (.ref f))) (hf : PySem.W.isFn X.K (.ref f) = true) (hb : Binds X.K fd ps []) (hx : Passes CX X E0) : OpR X (binaryOp .Mult) (rMulE C sp) := by
  intro pins s σ H x y v u Q I rx ry h
  obtain ⟨a, b, dx, dy, fs, gs, rfl, rfl, ha, hB, q⟩ := h
  cases rx
  cases ry
  obtain ⟨mA, J, _⟩ := ins_get I.hok ha
  obtain ⟨od, J, _⟩ := J.look
  obtain ⟨mB, JB, _⟩ := ins_get I.hok hB
  obtain ⟨odB, JB, _⟩ := JB.look
  obtain ⟨m, hF⟩ := I.fr
  refine PySem.W.binop_K hF I.ok.mod.kin J (JB.type) hc (by rw [dunder_mul]; exact hs) hf (wpAny_mono (run_fn (us := [.ref a, .ref b]) (vs := [.ref a, .ref b]) (dvs := []) F hr hb .nil hx I (.cons rfl (.cons rfl .nil)) q) (fun v s' z => ?_) fun _ _ z => z)
  obtain ⟨z, H', I', rz, qz⟩ := z
  exact SlX.cmpback rz ⟨z, H', I', rz, qz⟩
end K30
set_option maxHeartbeats 4000000
namespace K30
open PySem L2
/-! ### the data: texts as code points, rows -/
abbrev S (w : List Nat) : Str := ⟨w.toArray⟩
abbrev Row := Option (Nat × List Nat)
def rowD : Row → PyData
  | none => .none
  | some (k, w) => .tuple [.int (k : Int), .str (S w)]
def rowsD (R : List Row) : PyData := .tuple (R.map rowD)
def idxD (is : List Nat) : PyData := .tuple (is.map fun (i : Nat) => .int (i : Int))
abbrev isLetter (c : Nat) : Prop := 97 ≤ c ∧ c ≤ 122
def okRow (n cap : Nat) (r : Row) : Prop := ∀ k w, r = some (k, w) → k ≤ n ∧ (∀ c ∈ w, isLetter c) ∧ k + w.length ≤ cap
def okRows (cap : Nat) (R : List Row) : Prop := R.length = cap + 1 ∧ ∀ i r, R[i]? = some r → okRow i cap r
def jrow (R : List Row) : Row → Row
  | none => none
  | some (k, w) => match R[k + w.length]? with
    | some (some (a, x)) => if a ≤ w.length then some (0, w.drop (w.length - a) ++ x) else some (a - w.length, w ++ x)
    | _ => none
def jrows (A B : List Row) : List Row := A.map (jrow B)
def idRows (cap : Nat) : List Row := (List.range (cap + 1)).map fun l => some (l, [])
def failRows (cap : Nat) : List Row := List.replicate (cap + 1) none
theorem okRow_mono {n cap : Nat} {r : Row} (h : okRow n cap r) {m : Nat} (l : n ≤ m) : okRow m cap r := fun k w e => ⟨Nat.le_trans (h k w e).1 l, (h k w e).2⟩
theorem jrow_ok {cap n : Nat} {B : List Row} {r : Row} (hn : n ≤ cap) (hr : okRow n cap r) (hB : okRows cap B) : okRow n cap (jrow B r) := by
  intro k w e
  match r, hr, e with
  | none, _, e => cases e
  | some (j, v), hr, e =>
    obtain ⟨h1, h2, h3⟩ := hr j v rfl
    cases q : B[j + v.length]? with
    | none => simp only [jrow, q] at e; cases e
    | some o =>
      cases o with
      | none => simp only [jrow, q] at e; cases e
      | some p =>
        obtain ⟨a, x⟩ := p
        simp only [jrow, q] at e
        obtain ⟨g1, g2, g3⟩ := hB.2 _ _ q a x rfl
        by_cases c : a ≤ v.length
        · rw [if_pos c] at e
          cases e
          refine ⟨Nat.zero_le _, fun z hz => ?_, ?_⟩
          · rcases List.mem_append.mp hz with hz | hz
            · exact h2 z (List.mem_of_mem_drop hz)
            · exact g2 z hz
          · rw [List.length_append, List.length_drop]; omega
        · rw [if_neg c] at e
          cases e
          refine ⟨by omega, fun z hz => ?_, ?_⟩
          · rcases List.mem_append.mp hz with hz | hz
            · exact h2 z hz
            · exact g2 z hz
          · rw [List.length_append]; omega
theorem jrows_ok {cap : Nat} {A B : List Row} (hA : okRows cap A) (hB : okRows cap B) : okRows cap (jrows A B) := by
  refine ⟨by unfold jrows; rw [List.length_map]; exact hA.1, fun i r h => ?_⟩
  unfold jrows at h
  rw [List.getElem?_map] at h
  cases q : A[i]? with
  | none => rw [q] at h; cases h
  | some o =>
    rw [q] at h
    cases h
    have hl := (List.getElem?_eq_some_iff.mp q).1
    have := hA.1
    exact jrow_ok (by omega) (hA.2 i o q) hB
theorem idRows_ok (cap : Nat) : okRows cap (idRows cap) := by
  refine ⟨by simp [idRows], fun i r h k w e => ?_⟩
  subst e
  unfold idRows at h
  rw [List.getElem?_map] at h
  cases q : (List.range (cap + 1))[i]? with
  | none => rw [q] at h; cases h
  | some o =>
    rw [q] at h
    obtain ⟨hl, e2⟩ := List.getElem?_eq_some_iff.mp q
    rw [List.getElem_range] at e2
    rw [List.length_range] at hl
    cases h
    subst e2
    exact ⟨Nat.le_refl _, (by intro c hc; cases hc), by simp; omega⟩
theorem failRows_ok (cap : Nat) : okRows cap (failRows cap) := by
  refine ⟨by simp [failRows], fun i r h k w e => ?_⟩
  subst e
  unfold failRows at h
  rw [List.getElem?_replicate] at h
  split at h <;> cases h
section
variable {K : PySem.W.Frag} {H : Hp}
theorem row_inv {v : V} : ∀ {r : Row}, Dp K H v (rowD r) → (r = none ∧ v = .non) ∨ ∃ k w t, r = some (k, w) ∧ v = .ref t ∧ SqT K H t [.int (k : Int), .str (S w)]
  | none, h => by unfold rowD at h; cases h; exact .inl ⟨rfl, rfl⟩
  | some (k, w), h => by
    unfold rowD at h
    cases h with
    | tup hs ha =>
      cases ha with
      | cons h1 h2 =>
        cases h2 with
        | cons h2 h3 =>
          cases h3; cases h1; cases h2
          exact .inr ⟨k, w, _, rfl, rfl, hs⟩
theorem row_mk {k : Nat} {w : List Nat} {t : Addr} (h : SqT K H t [.int (k : Int), .str (S w)]) : Dp K H (.ref t) (rowD (some (k, w))) := .tup h (.cons (.int _) (.cons (.str _) .nil))
theorem rows_inv {v : V} {R : List Row} (h : Dp K H v (rowsD R)) : ∃ t xs, v = .ref t ∧ SqT K H t xs ∧ DpAll K H xs (R.map rowD) := by
  unfold rowsD at h
  cases h with
  | tup hs ha => exact ⟨_, _, rfl, hs, ha⟩
theorem rows_at {xs : List V} {R : List Row} (h : DpAll K H xs (R.map rowD)) {i : Nat} {r : Row} (e : R[i]? = some r) : ∃ v, xs[i]? = some v ∧ Dp K H v (rowD r) :=
  dpAll_get h (by rw [List.getElem?_map, e]; rfl)
theorem rows_at' {xs : List V} {R : List Row} (h : DpAll K H xs (R.map rowD)) {i : Nat} {v : V} (e : xs[i]? = some v) : ∃ r, R[i]? = some r ∧ Dp K H v (rowD r) := by
  have hl := dpAll_len h
  rw [List.length_map] at hl
  have hi : i < R.length := by have := (List.getElem?_eq_some_iff.mp e).1; omega
  obtain ⟨v', e', d⟩ := rows_at h (List.getElem?_eq_getElem hi)
  rw [e] at e'; cases e'
  exact ⟨_, List.getElem?_eq_getElem hi, d⟩
theorem dpAll_ext' {H' : Hp} (e : Ext H H') {vs : List V} {ds : List PyData} (h : DpAll K H vs ds) : DpAll K H' vs ds := dpAll_ext e ds vs h
theorem dp_ext' {H' : Hp} (e : Ext H H') {v : V} {d : PyData} (h : Dp K H v d) : Dp K H' v d := dp_ext e d v h
theorem SqT.mk {a : Addr} {xs : List V} (h : H a = some (.tup xs)) : SqT K H a xs := SqT.of h
end
/-! ### a def of the top -/
structure Df (K : PySem.W.Frag) (mg : Str → Option Value) (x : Str) (st : Stmt) where
  f : Addr
  fd : FuncData
  F : Fun K x x st f fd
  m : mg x = some (.ref f)
structure DfD (K : PySem.W.Frag) (mg : Str → Option Value) (x : Str) (st : Stmt) (dvs : List V) where
  f : Addr
  fd : FuncData
  F : FunD K x x (defArgs st) (defBody st) (defScope st) dvs [] f fd
  m : mg x = some (.ref f)
end K30
set_option maxHeartbeats 4000000
namespace K30
open PySem L2
/-! ### data without lists, beside a list that grows -/
mutual
def tupy : PyData → Bool
  | .list _ => false
  | .dict _ => false
  | .tuple ds => tupyAll ds
  | _ => true
def tupyAll : List PyData → Bool
  | [] => true
  | d :: ds => tupy d && tupyAll ds
end
theorem tupyAll_of : ∀ {ds : List PyData}, (∀ d ∈ ds, tupy d = true) → tupyAll ds = true
  | [], _ => rfl
  | d :: ds, h => by
    show (tupy d && tupyAll ds) = true
    rw [h d (List.mem_cons_self ..), tupyAll_of fun e he => h e (List.mem_cons_of_mem _ he)]
    rfl
theorem tupy_row : ∀ r : Row, tupy (rowD r) = true
  | none => rfl
  | some (_, _) => rfl
theorem tupy_rows (R : List Row) : tupy (rowsD R) = true := tupyAll_of fun d hd => by
  obtain ⟨r, _, rfl⟩ := List.mem_map.mp hd
  exact tupy_row r
theorem tupy_idx (is : List Nat) : tupy (idxD is) = true := tupyAll_of fun d hd => by
  obtain ⟨r, _, rfl⟩ := List.mem_map.mp hd
  rfl
/-- all but the list at D is as it was -/
def ExtL (D : Addr) (H H' : Hp) : Prop := ∀ a o, a ≠ D → H a = some o → H' a = some o
theorem ExtL.of {D : Addr} {H H' : Hp} (e : Ext H H') : ExtL D H H' := fun a o _ h => e a o h
theorem ExtL.trans {D : Addr} {H H1 H2 : Hp} (a : ExtL D H H1) (b : ExtL D H1 H2) : ExtL D H H2 := fun c o n h => b c o n (a c o n h)
theorem ExtL.upd {D : Addr} {H : Hp} {o : HO} : ExtL D H (upd H D o) := fun a u n h => by rw [upd_ne n]; exact h
section
variable {K : PySem.W.Frag}
theorem sqT_extL {D a : Addr} {H H' : Hp} {acc : List V} {xs : List V} (hD : H D = some (.lst acc)) (e : ExtL D H H') (h : SqT K H a xs) : SqT K H' a xs := by
  rcases h with (h | ⟨o, h⟩) | h
  · exact .inl (.inl (e _ _ (fun z => by subst z; rw [hD] at h; cases h) h))
  · exact .inl (.inr ⟨o, e _ _ (fun z => by subst z; rw [hD] at h; cases h) h⟩)
  · exact .inr h
mutual
theorem dp_extL {D : Addr} {H H' : Hp} {acc : List V} (hD : H D = some (.lst acc)) (e : ExtL D H H') : ∀ (d : PyData) (v : V), tupy d = true → Dp K H v d → Dp K H' v d
  | .none, _, _, h => by cases h; exact .non
  | .bool _, _, _, h => by cases h; exact .bl _
  | .int _, _, _, h => by cases h; exact .int _
  | .str _, _, _, h => by cases h; exact .str _
  | .list _, _, t, _ => by cases t
  | .dict _, _, t, _ => by cases t
  | .tuple ds, _, t, h => by
    cases h with
    | tup hs ha => exact .tup (sqT_extL hD e hs) (dpAll_extL hD e ds _ t ha)
theorem dpAll_extL {D : Addr} {H H' : Hp} {acc : List V} (hD : H D = some (.lst acc)) (e : ExtL D H H') : ∀ (ds : List PyData) (vs : List V), tupyAll ds = true → DpAll K H vs ds → DpAll K H' vs ds
  | [], _, _, h => by cases h; exact .nil
  | d :: ds, _, t, h => by
    rw [tupyAll, Bool.and_eq_true] at t
    cases h with
    | cons h1 h2 => exact .cons (dp_extL hD e d _ t.1 h1) (dpAll_extL hD e ds _ t.2 h2)
end
theorem tyx_tup {H : Hp} {a : Addr} {xs : List V} (h : SqT K H a xs) : TyX K H (.ref a) (.type "tuple") := by
  rcases h with (h | ⟨o, h⟩) | ⟨o, its, n, h, c, _⟩
  · exact .base (.tup h)
  · exact .fTuple h
  · exact .kTuple h c
theorem tyx_list {H : Hp} {a : Addr} {xs : List V} (h : SqL K H a xs) : TyX K H (.ref a) (.type "list") := by
  rcases h with (h | ⟨o, h⟩) | ⟨o, its, n, h, c, _⟩
  · exact .base (.lst h)
  · exact .base (.frz h)
  · exact .kList h c
/-- a comprehension that keeps every item and changes nothing that stands -/
theorem lc_pure {J : It} {n : Nat} {G : Hp → Prop} {Y : Nat → Hp → V → Hp → Prop} (w : Walk J n G Y) {g : TG} {tt : TT} {te : TE} {vs : List Nat} {σ : L2.St} {H1 : Hp} {D : Addr} {Qd : Hp → Prop}
    (hD : H1 D = none) (hn : n ≤ 100000) (hG : ∀ H, Ext H1 H → G H) (Rv : Nat → V → Hp → Prop)
    (hY : ∀ i H x H', Y i H x H' → Ext H H')
    (mono : ∀ i v H H' acc, H D = some (.lst acc) → ExtL D H H' → Rv i v H → Rv i v H')
    (hs : ∀ i x H H', i < n → Ext H1 H → Y i H x H' → ∀ R : V → Hp → Prop, (∀ y H4, Ext H' H4 → Rv i y H4 → R y H4) →
      g x (wipe σ vs) H' fun σ2 H2 => wipe σ2 vs = wipe σ vs ∧ tt σ2 H2 fun b H3 => if b = true then te σ2 H3 R else False)
    (hd : ∀ ys H, ys.length = n → H D = some (.lst ys) → (∀ i y, ys[i]? = some y → Rv i y H) → Ext H1 H → Qd H) 
    (gmono : ∀ {x σ H} {Q R : L2.St → Hp → Prop}, (∀ σ H, Q σ H → R σ H) → g x σ H Q → g x σ H R) (tmono : ∀ {σ H} {Q R : Bool → Hp → Prop}, (∀ b H, Q b H → R b H) → tt σ H Q → tt σ H R) :
    ∃ W : Nat → Nat → Hp → Prop, (∃ m, W 0 m (upd H1 D (.lst []))) ∧ ∀ i m H, W i m H →
      (J.stop i H ∧ Qd H) ∨ (J.go i H ∧ ∃ Nx : Hp → Prop, (∀ H', Nx H' → ∃ m', m' < m ∧ W (i + 1) m' H') ∧ ∀ x H', J.yld i H x H' → g x (wipe σ vs) H' fun σ2 H2 => wipe σ2 vs = wipe σ vs ∧ tt σ2 H2 fun b H3 =>
        if b = true then te σ2 H3 fun y H4 => ∃ acc, H4 D = some (.lst acc) ∧ acc.length < sizeLine ∧ Nx (upd H4 D (.lst (acc ++ [y]))) else Nx H3) := by
  have x0 : ∀ {H : Hp} {o : HO}, Ext H1 H → Ext H1 (upd H D o) := fun {H o} e a u h => by
    rw [upd_ne (ne_of_none h hD)]; exact e a u h
  refine lc_it w (fun i H => ∃ ys, ys.length = i ∧ H D = some (.lst ys) ∧ (∀ j y, ys[j]? = some y → Rv j y H) ∧ Ext H1 H) ⟨[], rfl, upd_same, fun j y h => (by simp at h), x0 Ext.rfl'⟩ (fun i H _ ⟨_, _, _, _, e⟩ => hG H e) ?_ ?_
  · rintro i x H H' hi ⟨ys, hl, hy, hr, e⟩ hYi
    have e' := hY i H x H' hYi
    refine gmono (fun σ2 H2 q => ⟨q.1, tmono (fun b H3 q => ?_) q.2⟩) (hs i x H H' hi e hYi (fun y H4 => ∃ acc, H4 D = some (.lst acc) ∧ acc.length < sizeLine ∧ (∃ zs, zs.length = i + 1 ∧ (upd H4 D (.lst (acc ++ [y]))) D = some (.lst zs) ∧ (∀ j z, zs[j]? = some z → Rv j z (upd H4 D (.lst (acc ++ [y])))) ∧ Ext H1 (upd H4 D (.lst (acc ++ [y]))))) fun y H4 e4 ry => ?_)
    · cases b with
      | true => rw [if_pos rfl] at q ⊢; exact q
      | false => rw [if_neg Bool.false_ne_true] at q; exact q.elim
    · have h4 : H4 D = some (.lst ys) := e4 _ _ (e' _ _ hy)
      refine ⟨ys, h4, ?_, ys ++ [y], by rw [List.length_append, hl]; rfl, upd_same, fun j z hz => ?_, x0 ((e.trans e').trans e4)⟩
      · rw [sizeLine_eq]; omega
      · refine mono j z H4 _ ys h4 ExtL.upd ?_
        by_cases c : j < ys.length
        · rw [List.getElem?_append_left c] at hz
          exact mono j z H H4 ys hy (ExtL.of (e'.trans e4)) (hr j z hz)
        · have : j = ys.length := by
            have := (List.getElem?_eq_some_iff.mp hz).1
            rw [List.length_append] at this
            simp at this
            omega
          subst this
          rw [List.getElem?_append_right (Nat.le_refl _), Nat.sub_self] at hz
          cases hz
          rw [hl]
          exact ry
  · rintro H ⟨ys, hl, hy, hr, e⟩
    exact hd ys H hl hy hr e
end
end K30
set_option maxHeartbeats 4000000
namespace K30
open PySem L2
/-! ### the text by places -/
abbrev sChkInt : Stmt := top 17
abbrev sIsTxt : Stmt := top 18
abbrev sIsCap : Stmt := top 19
abbrev sChkCap : Stmt := top 20
abbrev sIsMode : Stmt := top 21
abbrev sChkMode : Stmt := top 22
abbrev sIsQ : Stmt := top 23
abbrev sSpan : Stmt := top 31
abbrev sParse : Stmt := top 33
abbrev sItems : Stmt := top 34
abbrev sIsRow : Stmt := top 36
abbrev sJrow : Stmt := top 37
abbrev sJrows : Stmt := top 38
abbrev sIdRows : Stmt := top 39
abbrev sE : Stmt := top 41
abbrev sSame : Stmt := top 42
abbrev sChkE : Stmt := top 45
abbrev sGen : Stmt := top 46
abbrev sRowAfter : Stmt := top 48
abbrev sRowsOf : Stmt := top 49
abbrev sEffOf : Stmt := top 50
abbrev sDraws : Stmt := top 52
abbrev sDraw : Stmt := top 53
abbrev sLGen : Stmt := top 56
abbrev sWords : Stmt := top 57
abbrev sProd : Stmt := top 58
abbrev sClosed : Stmt := top 59
abbrev sErr : Stmt := top 60
abbrev sFix : Stmt := top 61
abbrev sLaw : Stmt := top 62
/-! ### the built-in names that no one has bound -/
structure Nb (mg : Str → Option Value) : Prop where
  isinstance : mg "isinstance" = none
  int : mg "int" = none
  bool : mg "bool" = none
  str : mg "str" = none
  all : mg "all" = none
  len : mg "len" = none
  tuple : mg "tuple" = none
  list : mg "list" = none
  range : mg "range" = none
  enumerate : mg "enumerate" = none
  set : mg "set" = none
  sorted : mg "sorted" = none
  repr : mg "repr" = none
  max : mg "max" = none
  min : mg "min" = none
/-! ### calls in short -/
section
variable {X : Cx} {a b : Expr} {ta tb : TE} {p pos : Pos}
theorem b_isinstance : bootBuiltins "isinstance" = some (.builtin "isinstance") := by decide +kernel
theorem b_all : bootBuiltins "all" = some (.builtin "all") := by decide +kernel
theorem b_len : bootBuiltins "len" = some (.builtin "len") := by decide +kernel
theorem b_tuple : bootBuiltins "tuple" = some (.type "tuple") := by decide +kernel
theorem b_int : bootBuiltins "int" = some (.type "int") := by decide +kernel
theorem b_bool : bootBuiltins "bool" = some (.type "bool") := by decide +kernel
theorem b_str : bootBuiltins "str" = some (.type "str") := by decide +kernel
theorem b_list : bootBuiltins "list" = some (.type "list") := by decide +kernel
theorem q_isi (ha : PE X a ta) (hb : PE X b tb) (B : Nb X.mg) (hg : Gl X "isinstance" := by rfl)
    (he : starEach [a, b] X.env = (false, eval a X.env) :: starEach [b] X.env := by rfl) (he2 : starEach [b] X.env = (false, eval b X.env) :: starEach [] X.env := by rfl) (hpl : (backTo pos (starEach [b] X.env)).any (·.1) = false := by rfl) : PE X (.Call (.Name "isinstance" p) [a, b] [] pos) (tCB (rIsi X.K) (tCons ta (tCons tb tNil))) :=
  pe_callB call_isi hg B.isinstance b_isinstance (pa_cons ha (pa_cons hb pa_nil he2) he) (by decide) (by decide) he hpl
theorem q_isiT (ha : PE X a ta) (hb : PE X b tb) (B : Nb X.mg) (hg : Gl X "isinstance" := by rfl)
    (he : starEach [a, b] X.env = (false, eval a X.env) :: starEach [b] X.env := by rfl) (he2 : starEach [b] X.env = (false, eval b X.env) :: starEach [] X.env := by rfl) (hpl : (backTo pos (starEach [b] X.env)).any (·.1) = false := by rfl) : PE X (.Call (.Name "isinstance" p) [a, b] [] pos) (tCB (rIsiT X.K) (tCons ta (tCons tb tNil))) :=
  pe_callB call_isiT hg B.isinstance b_isinstance (pa_cons ha (pa_cons hb pa_nil he2) he) (by decide) (by decide) he hpl
theorem q_Tint (B : Nb X.mg) (hg : Gl X "int" := by rfl) : PE X (.Name "int" p) (tC (.ty "int")) := pe_bltn hg B.int b_int rfl
theorem q_Tbool (B : Nb X.mg) (hg : Gl X "bool" := by rfl) : PE X (.Name "bool" p) (tC (.ty "bool")) := pe_bltn hg B.bool b_bool rfl
theorem q_Tstr (B : Nb X.mg) (hg : Gl X "str" := by rfl) : PE X (.Name "str" p) (tC (.ty "str")) := pe_bltn hg B.str b_str rfl
theorem q_Tlist (B : Nb X.mg) (hg : Gl X "list" := by rfl) : PE X (.Name "list" p) (tC (.ty "list")) := pe_bltn hg B.list b_list rfl
theorem q_Ttuple (B : Nb X.mg) (hg : Gl X "tuple" := by rfl) : PE X (.Name "tuple" p) (tC (.ty "tuple")) := pe_bltn hg B.tuple b_tuple rfl
def rLenQ (K : PySem.W.Frag) : List V → Hp → VK → Prop := fun xs H Q => ∃ p ys, xs = [.ref p] ∧ (SqL K H p ys ∨ SqT K H p ys) ∧ Q (.int ys.length) H
def rLenS : List V → Hp → VK → Prop := fun xs H Q => ∃ w, xs = [.str (S w)] ∧ w.length ≤ 100000 ∧ Q (.int w.length) H
theorem call_lenS : CallR X (.builtin "len") rLenS := by
  intro pins s σ H xs us Q I r h
  obtain ⟨z, rfl, hz, q⟩ := h
  exact call_len_str pins s σ H _ us Q I r ⟨S z, rfl, (by show z.toArray.size ≤ sizeLine; rw [sizeLine_eq, List.size_toArray]; omega), q⟩
theorem q_len (ha : PE X a ta) (B : Nb X.mg) (hg : Gl X "len" := by rfl)
    (he : starEach [a] X.env = (false, eval a X.env) :: starEach [] X.env := by rfl) (hpl : (backTo pos (starEach [] X.env)).any (·.1) = false := by rfl) : PE X (.Call (.Name "len" p) [a] [] pos) (tCB (rLenQ X.K) (tCons ta tNil)) :=
  pe_callB call_len_seq hg B.len b_len (pa_cons ha pa_nil he) (by decide) (by decide) he hpl
theorem q_lenS (ha : PE X a ta) (B : Nb X.mg) (hg : Gl X "len" := by rfl)
    (he : starEach [a] X.env = (false, eval a X.env) :: starEach [] X.env := by rfl) (hpl : (backTo pos (starEach [] X.env)).any (·.1) = false := by rfl) : PE X (.Call (.Name "len" p) [a] [] pos) (tCB rLenS (tCons ta tNil)) :=
  pe_callB call_lenS hg B.len b_len (pa_cons ha pa_nil he) (by decide) (by decide) he hpl
def rTupOf (K : PySem.W.Frag) : List V → Hp → VK → Prop := fun xs H Q => ∃ p ys, xs = [.ref p] ∧ ((SqL K H p ys ∧ ∀ l, H l = none → Q (.ref l) (upd H l (.tup ys))) ∨ (SqT K H p ys ∧ Q (.ref p) H))
theorem q_tup (ha : PE X a ta) (B : Nb X.mg) (hg : Gl X "tuple" := by rfl)
    (he : starEach [a] X.env = (false, eval a X.env) :: starEach [] X.env := by rfl) (hpl : (backTo pos (starEach [] X.env)).any (·.1) = false := by rfl) : PE X (.Call (.Name "tuple" p) [a] [] pos) (tCB (rTupOf X.K) (tCons ta tNil)) :=
  pe_callTy call_tuple_of hg B.tuple b_tuple (pa_cons ha pa_nil he) (by decide) (by decide) he hpl
end
def sLETTERS : List Nat := (List.range 26).map (· + 97)
theorem letters_iff {c : Nat} : c ∈ sLETTERS ↔ isLetter c := by
  unfold sLETTERS isLetter
  rw [List.mem_map]
  constructor
  · rintro ⟨a, h, rfl⟩
    have := List.mem_range.mp h
    omega
  · intro h
    exact ⟨c - 97, List.mem_range.mpr (by omega), by omega⟩
/-- the module's constants -/
structure Cn (mg : Str → Option Value) : Prop where
  letters : ∃ t, mg "LETTERS" = some (.str (S sLETTERS) t)
  most : ∃ t, mg "MOST" = some (.int 100 t)
section
variable {P : Program} {w : World} {K : PySem.W.Frag} {mg : Str → Option Value} {base : Heap}
/-! ### is_integer -/
def spIsInt : Sp := fun vs H Q _ => ∃ i l : Int, vs = [.int i, .int l] ∧ Q (.bl (decide (l ≤ i))) H
theorem scIsInt : FnScope ["value", "least"] ["value", "least"] (defScope sIsInt) := ⟨rfl, rfl, rfl, by decide +kernel, rfl, by decide +kernel, by decide +kernel⟩
theorem ok_isInt (F : DfD K mg "is_integer" sIsInt [.int 0]) (B : Nb mg) : FnOk P w K mg base CX0 1 F.f F.fd ["value", "least"] spIsInt := by
  refine F.F.ok scIsInt (fun vs H Q E h => ?_) (fun cdv A outer s H vs Q E hr h => ?_)
  · obtain ⟨i, l, rfl, _⟩ := h
    rfl
  · obtain ⟨i, l, rfl, k⟩ := h
    refine ⟨_, pss_one (ps_ret (pe_and (q_isi (pv 0) (q_Tint B) B)
      (pe_and (pe_not (q_isi (pv 0) (q_Tbool B) B))
      (pe_one (pe_cmpR op_ge (pv 0) (pv 1) (nomark _)))))), ?_⟩
    refine ⟨_, rfl, _, _, _, _, true, rfl, .ty _, .base (.int _), kit_ty (by decide +kernel), _, rfl, iteT ?_⟩
    refine ⟨_, rfl, _, _, _, _, false, rfl, .ty _, .base (.int _), kit_ty (by decide +kernel), _, rfl, _, rfl, iteT ?_⟩
    exact ⟨_, rfl, _, rfl, _, _, rfl, rfl, k⟩
/-! ### is_text_of: all in -/
def spIsTxt : Sp := fun vs H Q _ => ∃ z ls : List Nat, vs = [.str (S z), .str (S ls)] ∧ z.length ≤ 1000 ∧ (∀ c ∈ z, c ∈ ls) ∧ ∀ H', Ext H H' → Q (.bl true) H'
theorem scIsTxt : FnScope ["value", "letters", "letter"] ["value", "letters"] (defScope sIsTxt) := ⟨rfl, rfl, rfl, by decide +kernel, rfl, by decide +kernel, by decide +kernel⟩
theorem ok_isTxt (F : Df K mg "is_text_of" sIsTxt) (B : Nb mg) : FnOk P w K mg base CX0 1 F.f F.fd ["value", "letters"] spIsTxt := by
  refine F.F.ok scIsTxt (fun vs H Q E h => ?_) (fun cdv A outer s H vs Q E hr h => ?_)
  · obtain ⟨i, l, rfl, _⟩ := h
    rfl
  · obtain ⟨z, ls, rfl, hz, hall, k⟩ := h
    refine ⟨_, pss_one (ps_ret (pe_and (q_isi (pv 0) (q_Tstr B) B)
      (pe_one (pe_callB (cr_all rfl) (by rfl) B.all (by decide +kernel) (pa_cons
        (pe_lc (own := [("letter", 2)]) (g := gName 2) (tt := tYes) rfl scIsTxt.nd (pi_str (pv 0)) (blkOk_by (N := ["value", "letters", "letter"]) (sc := defScope sIsTxt) (by decide +kernel))
          (fun _ _ _ _ _ => pg_name (i := 2) scIsTxt.nd rfl (Or.inl rfl)) (fun _ _ _ _ _ => pts_nil) (fun _ _ _ _ _ => pe_cmpR op_in_sign (pv 2) (pv 1) (by rfl))) pa_nil))))), ?_⟩
    refine ⟨_, rfl, _, _, _, _, true, rfl, .ty _, .base (.str _), kit_ty (by decide +kernel), _, rfl, iteT ?_⟩
    refine ⟨_, rfl, _, rfl, fun D hD => ?_⟩
    refine lc_pure walk_str hD (n := z.length) (by omega) (fun _ _ => True.intro) (fun i v H => v = .bl true) (fun i H x H' y => y.1 ▸ Ext.rfl') (fun _ _ _ _ _ _ _ h => h) ?_ ?_ (fun h q => h _ _ q) (fun h q => h _ _ q)
    · rintro i x H1 H2 hi e ⟨rfl, c, hc, rfl⟩ R hR
      refine ⟨rfl, ?_⟩
      refine iteT (B := False) ?_
      refine ⟨_, rfl, _, rfl, _, _, rfl, rfl, ?_⟩
      refine hR _ _ Ext.rfl' ?_
      have : c ∈ z := by
        have : z.toArray[i]? = some c := hc
        rw [List.getElem?_toArray] at this
        exact List.mem_of_getElem? this
      exact congrArg V.bl (decide_eq_true (hall c this))
    · intro ys H' hl hy hR e
      have : ys = (List.replicate z.length true).map V.bl := by
        refine List.ext_getElem? fun i => ?_
        rw [List.getElem?_map, List.getElem?_replicate]
        by_cases c : i < z.length
        · rw [if_pos c, List.getElem?_eq_getElem (by omega)]
          exact congrArg some (hR i _ (List.getElem?_eq_getElem (by omega)))
        · rw [if_neg c, List.getElem?_eq_none (by omega)]
          rfl
      refine ⟨D, _, rfl, SqL.of (this ▸ hy), ?_⟩
      rw [show (List.replicate z.length true).all id = true by simp]
      exact k H' e
/-! ### is_capacity, check_capacity -/
def spIsCap : Sp := fun vs H Q _ => ∃ i : Int, vs = [.int i] ∧ 1 ≤ i ∧ i ≤ 100 ∧ Q (.bl true) H
theorem scIsCap : FnScope ["value"] ["value"] (defScope sIsCap) := ⟨rfl, rfl, rfl, by decide +kernel, rfl, by decide +kernel, by decide +kernel⟩
theorem bIsInt2 (F : DfD K mg "is_integer" sIsInt [.int 0]) : Binds K F.fd ["value", "least"] [] := by
  obtain ⟨ds, r, b⟩ := F.F.binds1 (ps := ["value", "least"]) 2 1 (by simp) rfl (fun T kV doc pm an cdv ct us its h1 h2 => match us, its, h1, h2 with | [_, _], [_], _, _ => ⟨_, rfl, rfl⟩)
  cases r
  exact b
theorem bIsInt1 (F : DfD K mg "is_integer" sIsInt [.int 0]) : ∃ ds, Vals [.int 0] ds ∧ Binds K F.fd ["value", "least"] ds := 
  F.F.binds1 (ps := ["value", "least"]) 1 0 (by simp) rfl (fun T kV doc pm an cdv ct us its h1 h2 => match us, its, h1, h2 with | [_], [_], _, _ => ⟨_, rfl, rfl⟩)
theorem ok_isCap (F : Df K mg "is_capacity" sIsCap) (FI : DfD K mg "is_integer" sIsInt [.int 0]) (B : Nb mg) (N : Cn mg) : FnOk P w K mg base CX0 2 F.f F.fd ["value"] spIsCap := by
  have GI : FnOk P w K mg base CX0 1 FI.f FI.fd ["value", "least"] spIsInt := ok_isInt FI B
  obtain ⟨t, mM⟩ := N.most
  refine F.F.ok scIsCap (fun vs H Q E h => ?_) (fun cdv A outer s H vs Q E hr h => ?_)
  · obtain ⟨i, rfl, _⟩ := h
    rfl
  · obtain ⟨i, rfl, h1, h2, k⟩ := h
    refine ⟨_, pss_one (ps_ret (pe_and (pe_call GI hr (by rfl) FI.m FI.F.kp (bIsInt2 FI) .nil pass0 (pa_cons (pv 0) (pa_cons pe_int pa_nil)))
      (pe_one (pe_cmpR op_le (pv 0) (pe_glob (v := .int 100) (by rfl) mM ⟨_, rfl⟩) (nomark _))))), ?_⟩
    refine ⟨_, rfl, i, 1, rfl, _, rfl, ?_⟩
    rw [decide_eq_true h1]
    refine iteT ⟨_, rfl, _, _, rfl, rfl, ?_⟩
    show Q (.bl (decide (i ≤ 100))) H
    rw [decide_eq_true h2]
    exact k
end
end K30
set_option maxHeartbeats 4000000
namespace K30
open PySem L2
/-! ### texts as lists of signs -/
theorem S_app (a b : List Nat) : (S a ++ S b : Str) = S (a ++ b) := by
  show (⟨a.toArray ++ b.toArray⟩ : Str) = ⟨(a ++ b).toArray⟩
  rw [List.append_toArray]
theorem S_len (w : List Nat) : (S w).length = w.length := by show w.toArray.size = _; rw [List.size_toArray]
theorem cut_tail {w : List Nat} {i : Int} {k : Nat} (e : i = (k : Int)) (h : k ≤ w.length) : cutS (S w) (some i) none = S (w.drop k) := by
  subst e
  unfold cutS
  rw [S_len, HT.sIx_nat, HT.sIx_none, Nat.min_eq_left h, List.take_of_length_le (by rw [List.length_drop]; exact Nat.le_refl _)]
theorem cut_mid {w : List Nat} {i j : Int} {k l : Nat} (e : i = (k : Int)) (e2 : j = (l : Int)) (h : k ≤ w.length) (h2 : l ≤ w.length) : cutS (S w) (some i) (some j) = S ((w.drop k).take (l - k)) := by
  subst e e2
  unfold cutS
  rw [S_len, HT.sIx_nat, HT.sIx_nat, Nat.min_eq_left h, Nat.min_eq_left h2]
def rAddS : R2 := fun x y H Q => ∃ i j, x = .str (S i) ∧ y = .str (S j) ∧ i.length + j.length ≤ 100000 ∧ Q (.str (S (i ++ j))) H
def rTailS : V → Option Int → Option Int → Hp → VK → Prop := fun x lo hi H Q => ∃ w k, x = .str (S w) ∧ lo = some ((k : Nat) : Int) ∧ hi = none ∧ k ≤ w.length ∧ w.length ≤ 100000 ∧ Q (.str (S (w.drop k))) H
section
variable {X : Cx}
theorem op_addS : OpR X (binaryOp .Add) rAddS := by
  intro pins s σ H x y v u Q I rx ry h
  obtain ⟨i, j, rfl, rfl, hz, q⟩ := h
  exact op_add_str pins s σ H _ _ v u Q I rx ry ⟨_, _, rfl, rfl, by rw [S_len, S_len, sizeLine_eq]; omega, by rw [S_app]; exact q⟩
theorem sl_tailS : SlR X rTailS := by
  intro pins s σ H x v vl vu lo hi sl Q I rx hs pl pu h
  obtain ⟨w, k, hx, rfl, rfl, hk, hz, q⟩ := h
  exact sl_str pins s σ H x v vl vu _ _ sl Q I rx hs pl pu ⟨_, hx, by rw [S_len, sizeLine_eq]; omega, by rw [cut_tail rfl hk]; exact q⟩
end
section
variable {P : Program} {w : World} {K : PySem.W.Frag} {mg : Str → Option Value} {base : Heap}
/-! ### check_capacity -/
def spChkCap : Sp := fun vs H Q _ => ∃ i : Int, vs = [.int i] ∧ 1 ≤ i ∧ i ≤ 100 ∧ Q .non H
theorem scChkCap : FnScope ["value"] ["value"] (defScope sChkCap) := ⟨rfl, rfl, rfl, by decide +kernel, rfl, by decide +kernel, by decide +kernel⟩
theorem b1 {x qual : Str} {st : Stmt} {f : Addr} {fd : FuncData} {p : Str} (F : Fun K x qual st f fd) (h : ∀ (kV doc pm : Value) (an : Option Addr) (cdv ct : Value) (us : List Value), us.length = [p].length → bindArgs (PySem.W.fnOf x qual (defArgs st) (defBody st) (defScope st) .none kV doc pm an cdv ct) ⟨us, []⟩ = pure ([p].zip us)) : Binds K fd [p] [] := F.binds h
theorem bIsCap (F : Df K mg "is_capacity" sIsCap) : Binds K F.fd ["value"] [] := F.F.binds (ps := ["value"]) fun _ _ _ _ _ _ us hl => match us, hl with | [_], _ => rfl
theorem ok_chkCap (F : Df K mg "check_capacity" sChkCap) (FI : Df K mg "is_capacity" sIsCap) (GI : FnOk P w K mg base CX0 2 FI.f FI.fd ["value"] spIsCap) : FnOk P w K mg base CX0 3 F.f F.fd ["value"] spChkCap := by
  refine F.F.ok scChkCap (fun vs H Q E h => ?_) (fun cdv A outer s H vs Q E hr h => ?_)
  · obtain ⟨i, rfl, _⟩ := h
    rfl
  · obtain ⟨i, rfl, h1, h2, k⟩ := h
    refine ⟨_, pss_one (ps_if (pt_not (pt_val (pe_call GI hr (by rfl) FI.m FI.F.kp (bIsCap FI) .nil pass0 (pa_cons (pv 0) pa_nil)))) (pss_one ps_never) pss_nil), ?_⟩
    exact ⟨_, rfl, i, rfl, h1, h2, true, rfl, iteF k⟩
theorem bChkCap (F : Df K mg "check_capacity" sChkCap) : Binds K F.fd ["value"] [] := F.F.binds (ps := ["value"]) fun _ _ _ _ _ _ us hl => match us, hl with | [_], _ => rfl
/-! ### is_queue: it is one -/
def spIsQ : Sp := fun vs H Q _ => ∃ (z : List Nat) (c : Int), vs = [.str (S z), .int c] ∧ 1 ≤ c ∧ c ≤ 100 ∧ (∀ y ∈ z, isLetter y) ∧ (z.length : Int) ≤ c ∧ ∀ H', Ext H H' → Q (.bl true) H'
theorem scIsQ : FnScope ["value", "capacity"] ["value", "capacity"] (defScope sIsQ) := ⟨rfl, rfl, rfl, by decide +kernel, rfl, by decide +kernel, by decide +kernel⟩
theorem bIsTxt (F : Df K mg "is_text_of" sIsTxt) : Binds K F.fd ["value", "letters"] [] := F.F.binds (ps := ["value", "letters"]) fun _ _ _ _ _ _ us hl => match us, hl with | [_, _], _ => rfl
theorem ok_isQ (F : DfD K mg "is_queue" sIsQ [.int 100]) (FC : Df K mg "check_capacity" sChkCap) (FT : Df K mg "is_text_of" sIsTxt) (GC : FnOk P w K mg base CX0 3 FC.f FC.fd ["value"] spChkCap) (GT : FnOk P w K mg base CX0 1 FT.f FT.fd ["value", "letters"] spIsTxt)
    (B : Nb mg) (N : Cn mg) : FnOk P w K mg base CX0 4 F.f F.fd ["value", "capacity"] spIsQ := by
  obtain ⟨t, mL⟩ := N.letters
  refine F.F.ok scIsQ (fun vs H Q E h => ?_) (fun cdv A outer s H vs Q E hr h => ?_)
  · obtain ⟨i, l, rfl, _⟩ := h
    rfl
  · obtain ⟨z, c, rfl, h1, h2, h3, h4, k⟩ := h
    refine ⟨_, pss_cons (ps_expr (pe_call GC hr (by rfl) FC.m FC.F.kp (bChkCap FC) .nil pass0 (pa_cons (pv 1) pa_nil)))
      (pss_one (ps_ret (pe_and (pe_call GT (hr.mono (by decide)) (by rfl) FT.m FT.F.kp (bIsTxt FT) .nil pass0 (pa_cons (pv 0) (pa_cons (pe_glob (v := .str (S sLETTERS)) (by rfl) mL ⟨_, rfl⟩) pa_nil)))
        (pe_one (pe_cmpR op_le (q_lenS (pv 0) B) (pv 1) (nomark _)))))), ?_⟩
    refine ⟨_, rfl, c, rfl, h1, h2, _, rfl, z, sLETTERS, rfl, by omega, fun y hy => letters_iff.mpr (h3 y hy), fun H' e => ⟨true, rfl, iteT ?_⟩⟩
    refine ⟨_, rfl, z, rfl, by omega, _, rfl, _, _, rfl, rfl, ?_⟩
    show Q (.bl (decide ((z.length : Int) ≤ c))) H'
    rw [decide_eq_true h4]
    exact k H' e
theorem bIsQ2 (F : DfD K mg "is_queue" sIsQ [.int 100]) : Binds K F.fd ["value", "capacity"] [] := by
  obtain ⟨ds, r, b⟩ := F.F.binds1 (ps := ["value", "capacity"]) 2 1 (by simp) rfl (fun T kV doc pm an cdv ct us its h1 h2 => match us, its, h1, h2 with | [_, _], [_], _, _ => ⟨_, rfl, rfl⟩)
  cases r
  exact b
/-! ### is_row: it is one -/
def spIsRow (K : PySem.W.Frag) : Sp := fun vs H Q _ => ∃ (v : V) (r : Row) (l c : Nat), vs = [v, .int l, .int c] ∧ Dp K H v (rowD r) ∧ 1 ≤ c ∧ c ≤ 100 ∧ okRow l c r ∧ ∀ H', Ext H H' → Q (.bl true) H'
theorem scIsRow : FnScope ["value", "length", "capacity"] ["value", "length", "capacity"] (defScope sIsRow) := ⟨rfl, rfl, rfl, by decide +kernel, rfl, by decide +kernel, by decide +kernel⟩
theorem ok_isRow (F : Df K mg "is_row" sIsRow) (FI : DfD K mg "is_integer" sIsInt [.int 0]) (FQ : DfD K mg "is_queue" sIsQ [.int 100]) (GI : FnOk P w K mg base CX0 1 FI.f FI.fd ["value", "least"] spIsInt) (GQ : FnOk P w K mg base CX0 4 FQ.f FQ.fd ["value", "capacity"] spIsQ)
    (B : Nb mg) : FnOk P w K mg base CX0 5 F.f F.fd ["value", "length", "capacity"] (spIsRow K) := by
  obtain ⟨dI, rI, bI⟩ := bIsInt1 FI
  refine F.F.ok scIsRow (fun vs H Q E h => ?_) (fun cdv A outer s H vs Q E hr h => ?_)
  · obtain ⟨v, r, l, c, rfl, _⟩ := h
    rfl
  · obtain ⟨v, r, l, c, rfl, hd, h1, h2, h3, k⟩ := h
    refine ⟨_, pss_cons (ps_if (pt_cmpR op_isN (pv 0) pe_non (nomark _)) (pss_one (ps_ret pe_bl)) pss_nil)
      (pss_cons (ps_if (PW.pt (pw_or (pt_not (pt_val (q_isi (pv 0) (q_Ttuple B) B))) (pw_or (pt_cmpR op_ne (q_len (pv 0) B) pe_int (nomark _)) (pw_or (pt_not (pt_val (pe_call GI (hr.mono (by decide)) (by rfl) FI.m FI.F.kp bI rI pass0 (pa_cons (pe_ix ix_tup (pv 0) pe_int (fun _ _ => rfl)) pa_nil))))
          (pw_or1 (pt_cmpR op_gt (pe_ix ix_tup (pv 0) pe_int (fun _ _ => rfl)) (pv 1) (nomark _))))))) (pss_one (ps_ret pe_bl)) pss_nil)
      (pss_one (ps_ret (pe_and (pe_call GQ hr (by rfl) FQ.m FQ.F.kp (bIsQ2 FQ) .nil pass0 (pa_cons (pe_ix ix_tup (pv 0) pe_int (fun _ _ => rfl)) (pa_cons (pv 2) pa_nil)))
        (pe_one (pe_cmpR op_le (pe_op op_add (pe_ix ix_tup (pv 0) pe_int (fun _ _ => rfl)) (q_lenS (pe_ix ix_tup (pv 0) pe_int (fun _ _ => rfl)) B)) (pv 2) (nomark _))))))), ?_⟩
    rcases row_inv hd with ⟨rfl, rfl⟩ | ⟨n, z, t, rfl, rfl, hs⟩
    · exact ⟨_, rfl, rfl, _, rfl, iteT (k _ Ext.rfl')⟩
    · obtain ⟨g1, g2, g3⟩ := h3 n z rfl
      have a0 : atI [V.int (n : Int), V.str (S z)] 0 = some (V.int (n : Int)) := rfl
      have a1 : atI [V.int (n : Int), V.str (S z)] 1 = some (V.str (S z)) := rfl
      refine ⟨_, rfl, rfl, _, rfl, iteF ?_⟩
      refine ⟨_, rfl, _, _, _, _, true, rfl, .ty _, tyx_tup hs, kit_ty (by decide +kernel), true, rfl, iteF ?_⟩
      refine ⟨_, rfl, t, _, rfl, .inr hs, rfl, false, rfl, iteF ?_⟩
      refine ⟨_, rfl, t, _, _, _, rfl, rfl, hs, a0, n, 0, rfl, true, ?_, iteF ?_⟩
      · show V.bl (decide ((0 : Int) ≤ (n : Int))) = V.bl true
        rw [decide_eq_true (by omega)]
      refine ⟨_, rfl, t, _, _, _, rfl, rfl, hs, a0, _, rfl, _, _, rfl, rfl, false, ?_, iteF ?_⟩
      · show V.bl (decide ((l : Int) < (n : Int))) = V.bl false
        rw [decide_eq_false (by omega)]
      refine ⟨_, rfl, t, _, _, _, rfl, rfl, hs, a1, _, rfl, z, (c : Int), rfl, by omega, by omega, g2, by omega, fun H' e => ⟨true, rfl, iteT ?_⟩⟩
      have hs' := hs.ext e
      refine ⟨_, rfl, t, _, _, _, rfl, rfl, hs', a0, _, rfl, t, _, _, _, rfl, rfl, hs', a1, z, rfl, by omega, _, _, rfl, rfl, _, rfl, _, _, rfl, rfl, ?_⟩
      show Q (.bl (decide ((n : Int) + (z.length : Int) ≤ (c : Int)))) H'
      rw [decide_eq_true (by omega)]
      exact k H' e
/-! ### joined_row -/
def spJrow (K : PySem.W.Frag) : Sp := fun vs H Q _ => ∃ (v u : V) (r : Row) (R : List Row) (n c : Nat), vs = [v, u] ∧ Dp K H v (rowD r) ∧ Dp K H u (rowsD R) ∧ c ≤ 100 ∧ n ≤ c ∧ okRow n c r ∧ okRows c R ∧ ∀ H' z, Ext H H' → Dp K H' z (rowD (jrow R r)) → Q z H'
theorem scJrow : FnScope ["row", "rows", "kept", "word", "after"] ["row", "rows"] (defScope sJrow) := ⟨rfl, rfl, rfl, by decide +kernel, rfl, by decide +kernel, by decide +kernel⟩
theorem ok_jrow (F : Df K mg "joined_row" sJrow) (B : Nb mg) : FnOk P w K mg base CX0 1 F.f F.fd ["row", "rows"] (spJrow K) := by
  refine F.F.ok scJrow (fun vs H Q E h => ?_) (fun cdv A outer s H vs Q E hr h => ?_)
  · obtain ⟨v, u, r, R, n, c, rfl, _⟩ := h
    rfl
  · obtain ⟨v, u, r, R, n, c, rfl, hd, hR, h1, h2, h3, h4, k⟩ := h
    refine ⟨_, pss_cons (ps_if (pt_cmpR op_isN (pv 0) pe_non (nomark _)) (pss_one (ps_ret pe_non)) pss_nil)
      (pss_cons (ps_asg (pv 0) (pg_tup (by rfl) (pgs_cons (pg_name (i := 2) scJrow.nd rfl (.inl rfl)) (pgs_cons (pg_name (i := 3) scJrow.nd rfl (.inl rfl)) pgs_nil))))
      (pss_cons (ps_set (i := 4) scJrow.nd rfl (Or.inl rfl) (pe_ix ix_tup (pv 1) (pe_op op_add (pv 2) (q_lenS (pv 3) B)) (fun _ _ => rfl)))
      (pss_cons (ps_if (pt_cmpR op_isN (pv 4) pe_non (nomark _)) (pss_one (ps_ret pe_non)) pss_nil)
      (pss_cons (ps_if (pt_cmpR op_le (pe_ix ix_tup (pv 4) pe_int (fun _ _ => rfl)) (q_lenS (pv 3) B) (nomark _))
        (pss_one (ps_ret (pe_tup (pa_cons pe_int (pa_cons (pe_op op_addS (pe_slice sl_tailS (pv 3) (po_some (pe_op op_sub (q_lenS (pv 3) B) (pe_ix ix_tup (pv 4) pe_int (fun _ _ => rfl)))) po_none) (pe_ix ix_tup (pv 4) pe_int (fun _ _ => rfl))) pa_nil))))) pss_nil)
      (pss_one (ps_ret (pe_tup (pa_cons (pe_op op_sub (pe_ix ix_tup (pv 4) pe_int (fun _ _ => rfl)) (q_lenS (pv 3) B)) (pa_cons (pe_op op_addS (pv 3) (pe_ix ix_tup (pv 4) pe_int (fun _ _ => rfl))) pa_nil))))))))), ?_⟩
    rcases row_inv hd with ⟨rfl, rfl⟩ | ⟨m, z, t, rfl, rfl, hs⟩
    · exact ⟨_, rfl, rfl, _, rfl, iteT (k _ _ Ext.rfl' .non)⟩
    · obtain ⟨g1, g2, g3⟩ := h3 m z rfl
      obtain ⟨tR, xs, rfl, hsR, haR⟩ := rows_inv hR
      have hi : m + z.length < R.length := by rw [h4.1]; omega
      obtain ⟨v', ev, dv⟩ := rows_at haR (List.getElem?_eq_getElem hi)
      refine ⟨_, rfl, rfl, _, rfl, iteF ?_⟩
      refine ⟨_, rfl, t, _, rfl, hs, rfl, _, _, rfl, _, _, rfl, rfl, ?_⟩
      refine ⟨_, rfl, _, rfl, _, rfl, z, rfl, by omega, _, _, rfl, rfl, tR, xs, ((m + z.length : Nat) : Int), v', rfl, (by rw [Int.natCast_add]), hsR, atI_nat ev, ?_⟩
      have ok4 := h4.2 _ _ (List.getElem?_eq_getElem hi)
      have ej := List.getElem?_eq_getElem hi
      generalize eo : R[m + z.length] = o at dv ok4 ej
      rcases row_inv dv with ⟨rfl, rfl⟩ | ⟨a, x, t2, rfl, rfl, hs2⟩
      · refine ⟨_, rfl, rfl, _, rfl, iteT (k _ _ Ext.rfl' ?_)⟩
        simp only [jrow, ej]
        exact .non
      · obtain ⟨f1, f2, f3⟩ := ok4 a x rfl
        have a0 : atI [V.int (a : Int), V.str (S x)] 0 = some (V.int (a : Int)) := rfl
        have a1 : atI [V.int (a : Int), V.str (S x)] 1 = some (V.str (S x)) := rfl
        refine ⟨_, rfl, rfl, _, rfl, iteF ?_⟩
        refine ⟨_, rfl, t2, _, _, _, rfl, rfl, hs2, a0, _, rfl, z, rfl, by omega, _, _, rfl, rfl, _, rfl, ?_⟩
        by_cases c1 : a ≤ z.length
        · rw [decide_eq_true (show (a : Int) ≤ (z.length : Int) by omega)]
          refine iteT ?_
          refine ⟨_, rfl, _, rfl, z, rfl, by omega, _, rfl, t2, _, _, _, rfl, rfl, hs2, a0, _, _, rfl, rfl, _, rfl, z, z.length - a, rfl, (by rw [Int.ofNat_sub c1]), rfl, by omega, by omega, ?_⟩
          refine ⟨_, rfl, t2, _, _, _, rfl, rfl, hs2, a1, _, _, rfl, rfl, (by rw [List.length_drop]; omega), (by show 2 ≤ sizeLine; rw [sizeLine_eq]; decide), fun p hp => k _ _ (Ext.upd hp) ?_⟩
          simp only [jrow, ej, if_pos c1]
          exact row_mk (SqT.of upd_same)
        · rw [decide_eq_false (show ¬ (a : Int) ≤ (z.length : Int) by omega)]
          refine iteF ?_
          refine ⟨_, rfl, t2, _, _, _, rfl, rfl, hs2, a0, _, rfl, z, rfl, by omega, _, _, rfl, rfl, _, rfl, _, rfl, t2, _, _, _, rfl, rfl, hs2, a1, _, _, rfl, rfl, (by omega), (by show 2 ≤ sizeLine; rw [sizeLine_eq]; decide), fun p hp => k _ _ (Ext.upd hp) ?_⟩
          simp only [jrow, ej, if_neg c1]
          refine row_mk ?_
          rw [Int.ofNat_sub (by omega)]
          exact SqT.of upd_same
end
end K30
set_option maxHeartbeats 4000000
namespace K30
open PySem L2
theorem dpAll_of {K : PySem.W.Frag} {H : Hp} : ∀ {ys : List V} {ds : List PyData}, ys.length = ds.length → (∀ (i : Nat) y d, ys[i]? = some y → ds[i]? = some d → Dp K H y d) → DpAll K H ys ds
  | [], [], _, _ => .nil
  | [], _ :: _, h, _ => nomatch h
  | _ :: _, [], h, _ => nomatch h
  | y :: ys, d :: ds, h, k => .cons (k 0 y d rfl rfl) (dpAll_of (Nat.succ.inj h) fun i a b e1 e2 => k (i + 1) a b e1 e2)
section
variable {P : Program} {w : World} {K : PySem.W.Frag} {mg : Str → Option Value} {base : Heap}
/-! ### joined_rows -/
def spJrows (K : PySem.W.Frag) : Sp := fun vs H Q _ => ∃ (v u : V) (A B : List Row) (c : Nat), vs = [v, u] ∧ Dp K H v (rowsD A) ∧ Dp K H u (rowsD B) ∧ c ≤ 100 ∧ okRows c A ∧ okRows c B ∧ ∀ H' z, Ext H H' → Dp K H' z (rowsD (jrows A B)) → Q z H'
theorem scJrows : FnScope ["first", "second", "row"] ["first", "second"] (defScope sJrows) := ⟨rfl, rfl, rfl, by decide +kernel, rfl, by decide +kernel, by decide +kernel⟩
theorem bJrow (F : Df K mg "joined_row" sJrow) : Binds K F.fd ["row", "rows"] [] := F.F.binds (ps := ["row", "rows"]) fun _ _ _ _ _ _ us hl => match us, hl with | [_, _], _ => rfl
theorem ok_jrows (F : Df K mg "joined_rows" sJrows) (FJ : Df K mg "joined_row" sJrow) (GJ : FnOk P w K mg base CX0 1 FJ.f FJ.fd ["row", "rows"] (spJrow K)) (B : Nb mg) : FnOk P w K mg base CX0 2 F.f F.fd ["first", "second"] (spJrows K) := by
  refine F.F.ok scJrows (fun vs H Q E h => ?_) (fun cdv A outer s H vs Q E hr h => ?_)
  · obtain ⟨v, u, A', B', c, rfl, _⟩ := h
    rfl
  · obtain ⟨v, u, A', B', c, rfl, hA, hB, hc, oA, oB, k⟩ := h
    refine ⟨_, pss_one (ps_ret (q_tup (pe_lc (own := [("row", 2)]) (g := gName 2) (tt := tYes) rfl scJrows.nd (pi_tup (pv 0)) (blkOk_by (N := ["first", "second", "row"]) (sc := defScope sJrows) (by decide +kernel))
          (fun _ _ _ _ _ => pg_name (i := 2) scJrows.nd rfl (Or.inl rfl)) (fun _ _ _ _ _ => pts_nil) (fun _ _ _ _ _ => pe_call GJ hr (by rfl) FJ.m FJ.F.kp (bJrow FJ) .nil pass0 (pa_cons (pv 2) (pa_cons (pv 1) pa_nil)))) B)), ?_⟩
    obtain ⟨t, xs, rfl, hs, ha⟩ := rows_inv hA
    have hl := dpAll_len ha
    rw [List.length_map, oA.1] at hl
    refine ⟨_, rfl, t, rfl, ⟨_, hs⟩, fun D hD => ?_⟩
    refine lc_pure walk_tup hD (by omega) (fun H' e => hs.ext e) (fun i v H => ∀ r, A'[i]? = some r → Dp K H v (rowD (jrow B' r))) (fun i H x H' y => y.1 ▸ Ext.rfl')
      (fun i v H H' acc e1 e2 h r er => dp_extL e1 e2 _ _ (tupy_row _) (h r er)) ?_ ?_ (fun h q => h _ _ q) (fun h q => h _ _ q)
    · rintro i x H1 H2 hi e ⟨rfl, hx⟩ R hR
      obtain ⟨r, er, dr⟩ := rows_at' (dpAll_ext' e ha) hx
      refine ⟨rfl, iteT (B := False) ?_⟩
      refine ⟨_, rfl, _, rfl, x, u, r, B', i, c, rfl, dr, dp_ext' e hB, hc, by omega, oA.2 i r er, oB, fun H' z e' dz => hR z H' e' fun r' er' => ?_⟩
      rw [er] at er'; cases er'
      exact dz
    · intro ys H' hl' hy hR e
      refine ⟨D, ys, rfl, .inl ⟨SqL.of hy, fun l hl2 => k _ _ (Ext.upd' e hl2) ?_⟩⟩
      refine .tup (SqT.of upd_same) (dpAll_ext' (Ext.upd hl2) (dpAll_of ?_ fun i y d ey ed => ?_))
      · rw [List.length_map, jrows, List.length_map, oA.1]; omega
      · rw [List.getElem?_map, jrows, List.getElem?_map] at ed
        cases q : A'[i]? with
        | none => rw [q] at ed; cases ed
        | some r =>
          rw [q] at ed; cases ed
          exact hR i y ey r q
/-! ### identity_rows -/
def spIdRows (K : PySem.W.Frag) : Sp := fun vs H Q _ => ∃ (c : Nat), vs = [.int c] ∧ c ≤ 100 ∧ ∀ H' z, Ext H H' → Dp K H' z (rowsD (idRows c)) → Q z H'
theorem scIdRows : FnScope ["capacity", "length"] ["capacity"] (defScope sIdRows) := ⟨rfl, rfl, rfl, by decide +kernel, rfl, by decide +kernel, by decide +kernel⟩
theorem ok_idRows (F : Df K mg "identity_rows" sIdRows) (B : Nb mg) : FnOk P w K mg base CX0 1 F.f F.fd ["capacity"] (spIdRows K) := by
  refine F.F.ok scIdRows (fun vs H Q E h => ?_) (fun cdv A outer s H vs Q E hr h => ?_)
  · obtain ⟨c, rfl, _⟩ := h
    rfl
  · obtain ⟨c, rfl, hc, k⟩ := h
    refine ⟨_, pss_one (ps_ret (q_tup (pe_lc (own := [("length", 1)]) (g := gName 1) (tt := tYes) rfl scIdRows.nd (pi_range1 rfl B.range (pa_cons (pe_op op_add (pv 0) pe_int) pa_nil)) (blkOk_by (N := ["capacity", "length"]) (sc := defScope sIdRows) (by decide +kernel))
          (fun _ _ _ _ _ => pg_name (i := 1) scIdRows.nd rfl (Or.inl rfl)) (fun _ _ _ _ _ => pts_nil) (fun _ _ _ _ _ => pe_tup (pa_cons (pv 1) (pa_cons pe_str pa_nil)))) B)), ?_⟩
    refine ⟨_, rfl, _, _, rfl, rfl, _, rfl, by omega, by omega, fun D hD => ?_⟩
    refine lc_pure (walk_range (lo := 0) (n := c + 1)) hD (by omega) (fun _ _ => True.intro) (fun i v H => Dp K H v (rowD (some (i, [])))) (fun i H x H' y => y.1 ▸ Ext.rfl')
      (fun i v H H' acc e1 e2 h => dp_extL e1 e2 _ _ (tupy_row _) h) ?_ ?_ (fun h q => h _ _ q) (fun h q => h _ _ q)
    · rintro i x H1 H2 hi e ⟨rfl, rfl⟩ R hR
      refine ⟨rfl, iteT (B := False) ?_⟩
      refine ⟨_, rfl, (by show 2 ≤ sizeLine; rw [sizeLine_eq]; decide), fun p hp => hR _ _ (Ext.upd hp) (row_mk (SqT.of ?_))⟩
      rw [upd_same]
      show some (HO.tup [V.int (0 + (i : Int)), V.str (Str.ofString "")]) = some (HO.tup [V.int (i : Int), V.str (S [])])
      rw [Int.zero_add]
      rfl
    · intro ys H' hl' hy hR e
      refine ⟨D, ys, rfl, .inl ⟨SqL.of hy, fun l hl2 => k _ _ (Ext.upd' e hl2) ?_⟩⟩
      refine .tup (SqT.of upd_same) (dpAll_ext' (Ext.upd hl2) (dpAll_of ?_ fun i y d ey ed => ?_))
      · rw [List.length_map, idRows, List.length_map, List.length_range]; omega
      · have hi : i < c + 1 := by have := (List.getElem?_eq_some_iff.mp ey).1; omega
        rw [List.getElem?_map, idRows, List.getElem?_map, List.getElem?_range hi] at ed
        cases ed
        exact hR i y ey
end
end K30
set_option maxHeartbeats 4000000
namespace K30
open PySem L2
theorem walk_enumT {K : PySem.W.Frag} {a : Addr} {xs : List V} : Walk (Itet K a) xs.length (fun H => SqT K H a xs) (YPair (fun i => some (.int (i : Nat))) (fun i => xs[i]?)) := by
  refine ⟨fun i _ hi q => ⟨xs, xs[i], q, by simp [hi]⟩, fun _ q => ⟨xs, q, rfl⟩, fun i H v H' _ q y => ?_⟩
  obtain ⟨T, x, h1, h2, h3, h4⟩ := y
  exact ⟨T, .int (i : Nat), x, h1, h2, h3, rfl, h4 xs q⟩
/-- enumerate(x), x a slot that holds a list or a tuple: any walk of its pairs -/
def iEnumV (K : PySem.W.Frag) (i : Nat) : TI := fun σ H R => ∃ a xs, σ[i]? = some (some (V.ref a)) ∧ (SqT K H a xs ∨ H a = some (.lst xs)) ∧ ∀ J, Walk J xs.length (fun H' => Ext H H') (YPair (fun i => some (.int (i : Nat))) (fun i => xs[i]?)) → R J H
theorem pi_enumV {X : Cx} {i : Nat} {x : Str} {xp p pos tpos : Pos} {elts : List Expr} {kk : Nat} (hg : Gl X "enumerate") (hm : X.mg "enumerate" = none) (ha : PE X (.Name x xp) (tVar i))
    (hs : starEach [.Name x xp] X.env = (false, eval (.Name x xp) X.env) :: starEach [] X.env := by rfl) (hs2 : starEach [.Name x xp] X.env = [(false, eval (.Name x xp) X.env)] := by rfl) : PI X (.Tuple elts kk tpos) (.Call (.Name "enumerate" p) [.Name x xp] [] pos) (iEnumV X.K i) := by
  have h0 := pi_enumS (tpos := tpos) (elts := elts) (kk := kk) (p := p) (pos := pos) hg hm (pa_cons ha pa_nil hs) hs2
  refine ⟨fun pins s σ H R I h => h0.run pins s σ H R I ?_⟩
  obtain ⟨a, xs, h1, h2, h3⟩ := h
  refine ⟨_, h1, a, rfl, ?_⟩
  rcases h2 with h2 | h2
  · exact .inr ⟨xs, h2, h3 _ (walk_enumT.mono (fun H' e => h2.ext e) fun i H' x H'' _ _ y => y)⟩
  · exact .inl ⟨xs, SqL.of h2, h3 _ (walk_enum.mono (fun H' e => SqL.of (e _ _ h2)) fun i H' x H'' _ _ y => y)⟩
/-- a def that may only be entered while no repr is under way -/
theorem Fun.okG {P : Program} {w : World} {K : PySem.W.Frag} {mg : Str → Option Value} {base : Heap} {CX : CXT} {x qual : Str} {st : Stmt} {f : Addr} {fd : FuncData} {N ps : List Str} {k : Nat} {sp : Sp} (F : Fun K x qual st f fd) (S : FnScope N ps (defScope st)) (len : ∀ vs H Q E, sp vs H Q E → vs.length = ps.length)
    (hbody : ∀ (cdv : Value) (A : Around) (outer : List Env) (s : Shared) (H : Hp) (vs : List V) (Q : VK) (E : XK), A.guards = some [] → Room k (A.deeper (PyProof.Rows.envOfC qual (defScope st) s.heap.objs.size f cdv)) → sp vs H Q E →
      ∃ t, PSs (cxOf CX P w K mg base N qual (defScope st) f cdv A outer s H E) (defBody st) t ∧ t { nx := fun _ H' => Q .non H', rt := Q } (L2.start N vs) H) : FnG P w K mg base CX (k + 1) f fd ps sp := by
  obtain ⟨oc, od, kV, doc, pm, an, cdv, ct, osl, rfl, lk, hcd⟩ := F.ex
  exact fn_g lk hcd S len fun A outer s H vs Q E hg hr hsp => hbody cdv A outer s H vs Q E hg hr hsp
section
variable {X : Cx} {CX : CXT} {k i : Nat} {f C : Addr} {fd : FuncData} {ps : List Str} {sp : Sp} {dvs : List V} {ds : List Value} {E : XK} {x : Str} {p pos : Pos} {e : Expr} {es : List Expr} {t : TA}
/-- cls(..), the class at C in the i-th slot -/
def tMakeL (i : Nat) (C : Addr) (sp : Sp) (dvs : List V) (E : XK) (t : TA) : TE := fun σ H Q => σ[i]? = some (some (.ref C)) ∧ tMake C sp dvs E t σ H Q
theorem pe_makeL (M : Mk X.K C f) (F : FnOk X.prog X.w X.K X.mg X.base CX k f fd ps sp) (hr : Room (k + 1) X.A) (hN : X.N[i]? = some x) (hv : Vis X.env.scope x) (hb : Binds X.K fd ps ds) (hd : Vals dvs ds) (hx : Passes CX X E) (ha : PA X (e :: es) t)
    (hdb : (x == ("__debug__" : Str)) = false := by decide) (hcd : (x == ("__classdict__" : Str)) = false := by decide)
    (he : starEach (e :: es) X.env = (false, eval e X.env) :: starEach es X.env := by rfl) (hpl : (backTo pos (starEach es X.env)).any (·.1) = false := by rfl) : PE X (.Call (.Name x p) (e :: es) [] pos) (tMakeL i C sp dvs E t) := by
  refine ⟨fun pins s σ H Q I h => ?_⟩
  obtain ⟨hs, ht⟩ := h
  refine wpAny_Call_Name_kw (thn ((pe_var (pos := p) hN hv hdb hcd).run pins s σ H (fun v H1 => v = .ref C ∧ H1 = H) I ⟨.ref C, hs, rfl, rfl⟩) fun u s1 ⟨v, H1, I1, r1, q1⟩ => ?_)
  obtain ⟨rfl, rfl⟩ := q1
  cases r1
  refine PySem.W.callWith_K (h₀ := X.base) I.ok.mod.kin M.kp (thn (ha.run pos pins s1 σ _ _ I1 ht) fun us s2 ⟨vs, H2, I2, r, q⟩ => ⟨I2.kIn, ?_⟩) he hpl
  exact run_make M F hr hb hd hx I2 r q
end
/-! ### data without lists beside an object that is no tuple -/
mutual
theorem dp_extN {K : PySem.W.Frag} {D : Addr} {H H' : Hp} (hD : ∀ xs, ¬ Rd H D (.tup xs)) (e : ExtL D H H') : ∀ (d : PyData) (v : V), tupy d = true → Dp K H v d → Dp K H' v d
  | .none, _, _, h => by cases h; exact .non
  | .bool _, _, _, h => by cases h; exact .bl _
  | .int _, _, _, h => by cases h; exact .int _
  | .str _, _, _, h => by cases h; exact .str _
  | .list _, _, t, _ => by cases t
  | .dict _, _, t, _ => by cases t
  | .tuple ds, _, t, h => by
    cases h with
    | tup hs ha =>
      refine .tup ?_ (dpAll_extN hD e ds _ t ha)
      rcases hs with (h | ⟨o, h⟩) | h
      · exact .inl (.inl (e _ _ (fun z => by subst z; exact hD _ (.inl h)) h))
      · exact .inl (.inr ⟨o, e _ _ (fun z => by subst z; exact hD _ (.inr ⟨o, h⟩)) h⟩)
      · exact .inr h
theorem dpAll_extN {K : PySem.W.Frag} {D : Addr} {H H' : Hp} (hD : ∀ xs, ¬ Rd H D (.tup xs)) (e : ExtL D H H') : ∀ (ds : List PyData) (vs : List V), tupyAll ds = true → DpAll K H vs ds → DpAll K H' vs ds
  | [], _, _, h => by cases h; exact .nil
  | d :: ds, _, t, h => by
    rw [tupyAll, Bool.and_eq_true] at t
    cases h with
    | cons h1 h2 => exact .cons (dp_extN hD e d _ t.1 h1) (dpAll_extN hD e ds _ t.2 h2)
end
theorem nt_ins {H : Hp} {p C dx : Addr} {fs : List (Str × V)} (h : H p = some (.ins C dx fs)) : ∀ xs, ¬ Rd H p (.tup xs) := fun xs z => by
  rcases z with z | ⟨o, z⟩ <;> (rw [h] at z; cases z)
/-! ### effects -/
abbrev efF (t : Addr) : List (Str × V) := [("all_rows", .ref t)]
def EfAt (K : PySem.W.Frag) (C : Addr) (H : Hp) (a : Addr) (R : List Row) : Prop := ∃ dx t, H a = some (.ins C dx (efF t)) ∧ Dp K H (.ref t) (rowsD R)
theorem EfAt.ext {K : PySem.W.Frag} {C : Addr} {H H' : Hp} {a : Addr} {R : List Row} (h : EfAt K C H a R) (e : Ext H H') : EfAt K C H' a R := by
  obtain ⟨dx, t, h1, h2⟩ := h
  exact ⟨dx, t, e _ _ h1, dp_ext' e h2⟩
theorem EfAt.extL {K : PySem.W.Frag} {C : Addr} {H H' : Hp} {a D : Addr} {R : List Row} {acc : List V} (h : EfAt K C H a R) (hD : H D = some (.lst acc)) (e : ExtL D H H') : EfAt K C H' a R := by
  obtain ⟨dx, t, h1, h2⟩ := h
  exact ⟨dx, t, e _ _ (fun z => by subst z; rw [hD] at h1; cases h1) h1, dp_extL hD e _ _ (tupy_rows R) h2⟩
abbrev mE (j : Nat) : Stmt := inClass sE j
structure DfM (K : PySem.W.Frag) (x qual : Str) (st : Stmt) where
  f : Addr
  fd : FuncData
  F : Fun K x qual st f fd
/-- the class Effect as the top has left it -/
structure EfC (K : PySem.W.Frag) (mg : Str → Option Value) where
  C : Addr
  cl : Cls K C
  nA : NoAttr K C "all_rows"
  m : mg "Effect" = some (.ref C)
  kp : PySem.W.keepIn K (.ref C) = true
  fI : DfM K "__init__" "Effect.__init__" (mE 0)
  M : Mk K C fI.f
  fCap : DfM K "capacity" "Effect.capacity" (mE 3)
  pCap : Addr
  hCap : PropOf K C "capacity" pCap fCap.f
  fRows : DfM K "rows" "Effect.rows" (mE 4)
  pRows : Addr
  hRows : PropOf K C "rows" pRows fRows.f
  c_ : PySem.W.findIn K (.ref C) "__class__" = some (some (.builtin "object.__class__"))
  g_ : PySem.W.specialIn K (.builtin "object.__class__") "__get__" = some (some (.builtin "getset_descriptor.__get__"))
  t_ : PySem.W.takesIn K (.builtin "object.__class__") = some true
  o_ : PySem.W.mroIn K C (.type "object") = some true
section
variable {P : Program} {w : World} {K : PySem.W.Frag} {mg : Str → Option Value} {base : Heap}
theorem EfC.ty (T : EfC K mg) {H : Hp} {a : Addr} {R : List Row} (h : EfAt K T.C H a R) : TyX K H (.ref a) (.ref T.C) := by
  obtain ⟨dx, t, h1, _⟩ := h
  exact .base (.ins h1 T.cl T.c_ T.g_ T.t_ T.o_)
theorem kit_own {K : PySem.W.Frag} {C : Addr} : PySem.W.kitOne K (.ref C) (.ref C) = some true := by
  unfold PySem.W.kitOne
  rw [if_pos (by exact beq_self_eq_true _)]
/-! ### Effect.__init__ -/
def spInit (K : PySem.W.Frag) (C : Addr) : Sp := fun vs H Q _ => ∃ (p dx t : Addr) (c : Nat) (xs : List V) (R : List Row), vs = [.ref p, .int c, .ref t] ∧ H p = some (.ins C dx []) ∧ (SqT K H t xs ∨ H t = some (.lst xs)) ∧ DpAll K H xs (R.map rowD) ∧ 1 ≤ c ∧ c ≤ 100 ∧ okRows c R ∧
  ∀ H', EfAt K C H' p R → (∀ b o, H b = some o → b ≠ p → H' b = some o) → Q .non H'
theorem scInit : FnScope ["self", "capacity", "rows", "length", "row"] ["self", "capacity", "rows"] (defScope (mE 0)) := ⟨rfl, rfl, rfl, by decide +kernel, rfl, by decide +kernel, by decide +kernel⟩
theorem bIsRow (F : Df K mg "is_row" sIsRow) : Binds K F.fd ["value", "length", "capacity"] [] := F.F.binds (ps := ["value", "length", "capacity"]) fun _ _ _ _ _ _ us hl => match us, hl with | [_, _, _], _ => rfl
theorem ok_init (T : EfC K mg) (FC : Df K mg "check_capacity" sChkCap) (FR : Df K mg "is_row" sIsRow) (GC : FnOk P w K mg base CX0 3 FC.f FC.fd ["value"] spChkCap) (GR : FnOk P w K mg base CX0 5 FR.f FR.fd ["value", "length", "capacity"] (spIsRow K))
    (B : Nb mg) : FnOk P w K mg base CX0 6 T.fI.f T.fI.fd ["self", "capacity", "rows"] (spInit K T.C) := by
  refine T.fI.F.ok scInit (fun vs H Q E h => ?_) (fun cdv A outer s H vs Q E hr h => ?_)
  · obtain ⟨p, dx, t, c, xs, R, rfl, _⟩ := h
    rfl
  · obtain ⟨p, dx, t, c, xs, R, rfl, hp, hs, ha, h1, h2, oR, k⟩ := h
    refine ⟨_, pss_cons (ps_expr (pe_call GC (hr.mono (by decide)) (by rfl) FC.m FC.F.kp (bChkCap FC) .nil pass0 (pa_cons (pv 1) pa_nil)))
      (pss_cons (ps_if (PW.pt (pw_or (pt_not (pt_val (q_isiT (pv 2) (pe_tup (pa_cons (q_Tlist B) (pa_cons (q_Ttuple B) pa_nil))) B)))
          (pw_or1 (pt_cmpR op_ne (q_len (pv 2) B) (pe_op op_add (pv 1) pe_int) (nomark _))))) (pss_one ps_never) pss_nil)
      (pss_cons (ps_for PassesOwn.never rfl (pi_enumV (by rfl) B.enumerate (pv 2)) (pg_tup (by rfl) (pgs_cons (pg_name (i := 3) scInit.nd rfl (.inl rfl)) (pgs_cons (pg_name (i := 4) scInit.nd rfl (.inl rfl)) pgs_nil)))
        (pss_one (ps_if (pt_not (pt_val (pe_call GR hr (by rfl) FR.m FR.F.kp (bIsRow FR) .nil pass0 (pa_cons (pv 4) (pa_cons (pv 3) (pa_cons (pv 1) pa_nil)))))) (pss_one ps_never) pss_nil)))
      (pss_one (ps_fld (pv 0) (q_tup (pv 2) B) rfl)))), ?_⟩
    have hl := dpAll_len ha
    rw [List.length_map, oR.1] at hl
    have hQ : SqL K H t xs ∨ SqT K H t xs := by rcases hs with h | h; exact .inr h; exact .inl (SqL.of h)
    have npt : ∀ l, H l = none → p ≠ l := fun l hl => ne_of_none hp hl
    refine ⟨_, rfl, c, rfl, by omega, by omega, _, rfl, (by show 2 ≤ sizeLine; rw [sizeLine_eq]; decide), fun q hq => ?_⟩
    have eq := Ext.upd (o := HO.tup [.ty "list", .ty "tuple"]) hq
    have hs1 : SqT K (upd H q (.tup [.ty "list", .ty "tuple"])) t xs ∨ (upd H q (.tup [.ty "list", .ty "tuple"])) t = some (.lst xs) := by rcases hs with h | h; exact .inl (h.ext eq); exact .inr (eq _ _ h)
    have hk : ∃ ty, TyX K (upd H q (.tup [.ty "list", .ty "tuple"])) (.ref t) ty ∧ PySem.W.kitAny K ty [.type "list", .type "tuple"] = some true := by
      rcases hs1 with h | h
      · exact ⟨_, tyx_tup h, kitAny_cons (b := false) (kit_ty (by decide +kernel)) (fun _ => kitAny_cons (b := true) (kit_ty (by decide +kernel)) (fun z => nomatch z) fun _ => rfl) fun z => nomatch z⟩
      · exact ⟨_, tyx_list (SqL.of h), kitAny_cons (b := true) (kit_ty (by decide +kernel)) (fun z => nomatch z) fun _ => rfl⟩
    obtain ⟨ty, hty, hk⟩ := hk
    refine ⟨_, q, _, ty, _, true, rfl, upd_same, .cons (.ty _) (.cons (.ty _) .nil), hty, hk, true, rfl, iteF ?_⟩
    refine ⟨_, rfl, t, xs, rfl, (by rcases hs1 with h | h; exact .inr h; exact .inl (SqL.of h)), _, rfl, _, _, rfl, rfl, ?_⟩
    refine ⟨(by first | rfl | decide), false, ?_, iteF ?_⟩
    · show V.bl (!decide (V.int (xs.length : Int) = V.int ((c : Int) + 1))) = V.bl false
      rw [decide_eq_true (by rw [hl]; rfl)]
      rfl
    refine ⟨t, xs, rfl, hs1, fun J wJ => for_it wJ (fun i σ H' => Ext (upd H q (.tup [.ty "list", .ty "tuple"])) H' ∧ ∃ a b, σ = [some (.ref p), some (.int c), some (.ref t), a, b]) ⟨Ext.rfl', _, _, rfl⟩ (fun i σ H' _ e => e.1) ?_ ?_⟩
    · rintro i x σ H1 H2 hi ⟨e1, a, b, rfl⟩ ⟨tp, u, v, rfl, ht, rfl, hu, hv⟩
      cases hu
      have e2 := (e1.trans (Ext.upd (o := HO.tup [.int (i : Nat), v]) ht))
      obtain ⟨r, er, dr⟩ := rows_at' (dpAll_ext' (eq.trans e2) ha) hv
      refine ⟨tp, _, rfl, SqT.of upd_same, rfl, _, _, rfl, _, _, rfl, rfl, ?_⟩
      refine ⟨_, rfl, _, rfl, _, rfl, v, r, i, c, rfl, dr, h1, h2, oR.2 i r er, fun H' e' => ⟨true, rfl, iteF ?_⟩⟩
      exact ⟨e2.trans e', _, _, rfl⟩
    · rintro σ H' ⟨e, a, b, rfl⟩
      have hp' := e _ _ (eq _ _ hp)
      refine ⟨_, rfl, t, xs, rfl, ?_⟩
      rcases hs1 with h | h
      · refine .inr ⟨h.ext e, _, rfl, p, T.C, dx, [], rfl, hp', T.cl, T.nA, (by show 0 < 1000; decide), ?_⟩
        refine k _ ⟨dx, t, upd_same, ?_⟩ fun b o hb nb => by rw [upd_ne nb]; exact e _ _ (eq _ _ hb)
        exact dp_extN (nt_ins hp') ExtL.upd _ _ (tupy_rows R) (.tup (h.ext e) (dpAll_ext' (eq.trans e) ha))
      · refine .inl ⟨SqL.of (e _ _ h), fun l hl2 => ⟨_, rfl, p, T.C, dx, [], rfl, (by rw [upd_ne (ne_of_none hp' hl2)]; exact hp'), T.cl, T.nA, (by show 0 < 1000; decide), ?_⟩⟩
        refine k _ ⟨dx, l, upd_same, ?_⟩ fun b o hb nb => by rw [upd_ne nb, upd_ne (ne_of_none (e _ _ (eq _ _ hb)) hl2)]; exact e _ _ (eq _ _ hb)
        have hp2 : (upd H' l (.tup xs)) p = some (.ins T.C dx []) := by rw [upd_ne (ne_of_none hp' hl2)]; exact hp'
        exact dp_extN (nt_ins hp2) ExtL.upd _ _ (tupy_rows R) (.tup (SqT.of upd_same) (dpAll_ext' (Ext.upd hl2) (dpAll_ext' (eq.trans e) ha)))
end
end K30
set_option maxHeartbeats 4000000
namespace K30
open PySem L2
section
variable {P : Program} {w : World} {K : PySem.W.Frag} {mg : Str → Option Value} {base : Heap}
/-! ### the properties -/
def spCap (K : PySem.W.Frag) (C : Addr) : Sp := fun vs H Q _ => ∃ (a : Addr) (R : List Row) (c : Nat), vs = [.ref a] ∧ EfAt K C H a R ∧ R.length = c + 1 ∧ Q (.int c) H
theorem scCap : FnScope ["self"] ["self"] (defScope (mE 3)) := ⟨rfl, rfl, rfl, by decide +kernel, rfl, by decide +kernel, by decide +kernel⟩
theorem ok_cap (T : EfC K mg) (B : Nb mg) : FnOk P w K mg base CX0 1 T.fCap.f T.fCap.fd ["self"] (spCap K T.C) := by
  refine T.fCap.F.ok scCap (fun vs H Q E h => ?_) (fun cdv A outer s H vs Q E hr h => ?_)
  · obtain ⟨a, R, c, rfl, _⟩ := h
    rfl
  · obtain ⟨a, R, c, rfl, ⟨dx, t, h1, h2⟩, hl, k⟩ := h
    refine ⟨_, pss_one (ps_ret (pe_op op_sub (q_len (pe_fld (pv 0) rfl) B) pe_int)), ?_⟩
    obtain ⟨t', xs, e, hs, ha⟩ := rows_inv h2
    cases e
    have hx := dpAll_len ha
    rw [List.length_map, hl] at hx
    refine ⟨_, rfl, a, T.C, dx, _, _, rfl, h1, T.cl, T.nA, rfl, t, xs, rfl, .inr hs, _, _, rfl, rfl, ?_⟩
    show Q (.int ((xs.length : Int) - 1)) H
    rw [hx]
    rw [show ((c + 1 : Nat) : Int) - 1 = (c : Int) by omega]
    exact k
def spRows (K : PySem.W.Frag) (C : Addr) : Sp := fun vs H Q _ => ∃ (a : Addr) (R : List Row), vs = [.ref a] ∧ EfAt K C H a R ∧ ∀ t, Dp K H (.ref t) (rowsD R) → Q (.ref t) H
theorem scRows : FnScope ["self"] ["self"] (defScope (mE 4)) := ⟨rfl, rfl, rfl, by decide +kernel, rfl, by decide +kernel, by decide +kernel⟩
theorem ok_rows (T : EfC K mg) : FnOk P w K mg base CX0 1 T.fRows.f T.fRows.fd ["self"] (spRows K T.C) := by
  refine T.fRows.F.ok scRows (fun vs H Q E h => ?_) (fun cdv A outer s H vs Q E hr h => ?_)
  · obtain ⟨a, R, rfl, _⟩ := h
    rfl
  · obtain ⟨a, R, rfl, ⟨dx, t, h1, h2⟩, k⟩ := h
    refine ⟨_, pss_one (ps_ret (pe_fld (pv 0) rfl)), ?_⟩
    exact ⟨_, rfl, a, T.C, dx, _, _, rfl, h1, T.cl, T.nA, rfl, k t h2⟩
theorem bCap (T : EfC K mg) : Binds K T.fCap.fd ["self"] [] := T.fCap.F.binds (ps := ["self"]) fun _ _ _ _ _ _ us hl => match us, hl with | [_], _ => rfl
theorem bRows (T : EfC K mg) : Binds K T.fRows.fd ["self"] [] := T.fRows.F.binds (ps := ["self"]) fun _ _ _ _ _ _ us hl => match us, hl with | [_], _ => rfl
theorem bInit (T : EfC K mg) : Binds K T.fI.fd ["self", "capacity", "rows"] [] := T.fI.F.binds (ps := ["self", "capacity", "rows"]) fun _ _ _ _ _ _ us hl => match us, hl with | [_, _, _], _ => rfl
/-- e.capacity -/
theorem q_cap {X : Cx} {k : Nat} {e : Expr} {te : TE} {pos : Pos} (T : EfC X.K X.mg) (B : Nb X.mg) (he : PE X e te) (hr : Room 2 X.A) (hab : attributeBase e "capacity" X.env (eval e X.env) = eval e X.env := by rfl) : PE X (.Attribute e "capacity" pos) (tProp T.C (spCap X.K T.C) [] E0 te) :=
  pe_prop he T.cl T.hCap (ok_cap T B) hr (bCap T) .nil pass0 hab
theorem q_rows {X : Cx} {k : Nat} {e : Expr} {te : TE} {pos : Pos} (T : EfC X.K X.mg) (he : PE X e te) (hr : Room 2 X.A) (hab : attributeBase e "rows" X.env (eval e X.env) = eval e X.env := by rfl) : PE X (.Attribute e "rows" pos) (tProp T.C (spRows X.K T.C) [] E0 te) :=
  pe_prop he T.cl T.hRows (ok_rows T) hr (bRows T) .nil pass0 hab
/-! ### own exceptions with __init__ -/
structure ExV (K : PySem.W.Frag) (mg : Str → Option Value) (x qual : Str) (st : Stmt) where
  C : Addr
  m : mg x = some (.ref C)
  T : OexC K C
  fI : DfM K "__init__" qual st
  iC : PySem.W.findIn K (.ref C) "__init__" = some (some (.ref fI.f))
  tI : PySem.W.typeIn K (.ref fI.f) = some (.type "function")
  xf : XfC K C
abbrev xInvE (K : PySem.W.Frag) (mg : Str → Option Value) := ExV K mg "InvalidEffect" "InvalidEffect.__init__" (inClass (top 8) 0)
abbrev xCapM (K : PySem.W.Frag) (mg : Str → Option Value) := ExV K mg "CapacityMismatch" "CapacityMismatch.__init__" (inClass (top 9) 0)
/-- what the making of an exception with the fields fs tells -/
def ExD (H H' : Hp) (d : Addr) (fs : List (Str × V)) : Prop := Ext H H' ∧ H d = none ∧ H' d = some (.xd fs)
def spCapMI (C : Addr) : Sp := fun vs H Q _ => ∃ (a : Addr) (u v : V), vs = [.ref a, u, v] ∧ H a = some (exo a C none) ∧ ∀ dx, H dx = none → dx ≠ a → Q .non (upd (upd (upd H dx (exd dx [("first", u)])) a (exo a C (some dx))) dx (exd dx [("second", v), ("first", u)]))
theorem scCapMI : FnScope ["self", "first", "second"] ["self", "first", "second"] (defScope (inClass (top 9) 0)) := ⟨rfl, rfl, rfl, by decide +kernel, rfl, by decide +kernel, by decide +kernel⟩
theorem ok_capMI (F : xCapM K mg) (n1 : PySem.W.findIn K (.ref F.C) "first" = some none) (n2 : PySem.W.findIn K (.ref F.C) "second" = some none) : FnOk P w K mg base CX0 1 F.fI.f F.fI.fd ["self", "first", "second"] (spCapMI F.C) := by
  refine F.fI.F.ok scCapMI (fun vs H Q E h => ?_) (fun cdv A outer s H vs Q E hr h => ?_)
  · obtain ⟨a, u, v, rfl, _⟩ := h
    rfl
  · obtain ⟨a, u, v, rfl, h1, k⟩ := h
    refine ⟨_, pss_cons (ps_ost (pv 0) (pv 1)) (pss_one (ps_ost (pv 0) (pv 2))), ?_⟩
    refine ⟨_, rfl, _, rfl, a, F.C, rfl, F.T, n1, .inl ⟨h1, fun dx hd ne => ?_⟩⟩
    exact ⟨_, rfl, _, rfl, a, F.C, rfl, F.T, n2, .inr ⟨dx, _, upd_same, by rw [upd_ne ne, upd_same], (by show 1 ≤ 900; decide), k dx hd ne⟩⟩
theorem bCapMI (F : xCapM K mg) : Binds K F.fI.fd ["self", "first", "second"] [] := F.fI.F.binds (ps := ["self", "first", "second"]) fun _ _ _ _ _ _ us hl => match us, hl with | [_, _, _], _ => rfl
def spInvEI (C : Addr) : Sp := fun vs H Q _ => ∃ (a : Addr) (u : V), vs = [.ref a, u] ∧ H a = some (exo a C none) ∧ ∀ dx, H dx = none → dx ≠ a → Q .non (upd (upd H dx (exd dx [("position", u)])) a (exo a C (some dx)))
theorem scInvEI : FnScope ["self", "position"] ["self", "position"] (defScope (inClass (top 8) 0)) := ⟨rfl, rfl, rfl, by decide +kernel, rfl, by decide +kernel, by decide +kernel⟩
theorem ok_invEI (F : xInvE K mg) (n1 : PySem.W.findIn K (.ref F.C) "position" = some none) : FnOk P w K mg base CX0 1 F.fI.f F.fI.fd ["self", "position"] (spInvEI F.C) := by
  refine F.fI.F.ok scInvEI (fun vs H Q E h => ?_) (fun cdv A outer s H vs Q E hr h => ?_)
  · obtain ⟨a, u, rfl, _⟩ := h
    rfl
  · obtain ⟨a, u, rfl, h1, k⟩ := h
    refine ⟨_, pss_one (ps_ost (pv 0) (pv 1)), ?_⟩
    exact ⟨_, rfl, _, rfl, a, F.C, rfl, F.T, n1, .inl ⟨h1, fun dx hd ne => k dx hd ne⟩⟩
theorem bInvEI (F : xInvE K mg) : Binds K F.fI.fd ["self", "position"] [] := F.fI.F.binds (ps := ["self", "position"]) fun _ _ _ _ _ _ us hl => match us, hl with | [_, _], _ => rfl
/-- LimitExceeded -/
structure ExL (K : PySem.W.Frag) (mg : Str → Option Value) where
  C : Addr
  m : mg "LimitExceeded" = some (.ref C)
  T : OvC K C
  fI : DfM K "__init__" "LimitExceeded.__init__" (inClass (top 11) 0)
  iC : PySem.W.findIn K (.ref C) "__init__" = some (some (.ref fI.f))
  tI : PySem.W.typeIn K (.ref fI.f) = some (.type "function")
  xf : XfC K C
  n1 : PySem.W.findIn K (.ref C) "size" = some none
def spLimI (C : Addr) : Sp := fun vs H Q _ => ∃ (a : Addr) (u : V), vs = [.ref a, u] ∧ H a = some (exo a C none) ∧ ∀ dx, H dx = none → dx ≠ a → Q .non (upd (upd H dx (exd dx [("size", u)])) a (exo a C (some dx)))
theorem scLimI : FnScope ["self", "size"] ["self", "size"] (defScope (inClass (top 11) 0)) := ⟨rfl, rfl, rfl, by decide +kernel, rfl, by decide +kernel, by decide +kernel⟩
theorem ok_limI (F : ExL K mg) : FnOk P w K mg base CX0 1 F.fI.f F.fI.fd ["self", "size"] (spLimI F.C) := by
  refine F.fI.F.ok scLimI (fun vs H Q E h => ?_) (fun cdv A outer s H vs Q E hr h => ?_)
  · obtain ⟨a, u, rfl, _⟩ := h
    rfl
  · obtain ⟨a, u, rfl, h1, k⟩ := h
    refine ⟨_, pss_one (ps_ovs (pv 0) (pv 1)), ?_⟩
    exact ⟨_, rfl, _, rfl, a, F.C, rfl, F.T, F.n1, h1, fun dx hd ne => k dx hd ne⟩
theorem bLimI (F : ExL K mg) : Binds K F.fI.fd ["self", "size"] [] := F.fI.F.binds (ps := ["self", "size"]) fun _ _ _ _ _ _ us hl => match us, hl with | [_, _], _ => rfl
/-- a fresh exception of one field: what its making leaves -/
theorem mk1 {C : Addr} {n : Str} {u : V} {H1 : Hp} {Q : XK} {a : Addr} (ha : H1 a = none) (k : ∀ d H', ExD H1 H' d [(n, u)] → Q (.ref C) (some d) H') :
    ∀ dx, upd H1 a (exo a C none) dx = none → dx ≠ a → (fun v H2 => v = V.non ∧ ∃ (d : Addr) (fs : List (Str × V)), H2 a = some (exo a C (some d)) ∧ H2 d = some (exd d fs) ∧ H1 d = none ∧ Q (.ref C) (some d) (upd (del H2 a) d (.xd fs)))
      V.non (upd (upd (upd H1 a (exo a C none)) dx (exd dx [(n, u)])) a (exo a C (some dx))) := fun dx hd ne => by
  rw [upd_ne ne] at hd
  refine ⟨rfl, dx, [(n, u)], upd_same, by rw [upd_ne ne, upd_same], hd, k _ _ ⟨fun b o e => ?_, hd, upd_same⟩⟩
  rw [upd_ne (ne_of_none e hd), del_ne (ne_of_none e ha), upd_ne (ne_of_none e ha), upd_ne (ne_of_none e hd), upd_ne (ne_of_none e ha)]
  exact e
theorem mk2 {C : Addr} {n m : Str} {u v : V} {H1 : Hp} {Q : XK} {a : Addr} (ha : H1 a = none) (k : ∀ d H', ExD H1 H' d [(m, v), (n, u)] → Q (.ref C) (some d) H') :
    ∀ dx, upd H1 a (exo a C none) dx = none → dx ≠ a → (fun v H2 => v = V.non ∧ ∃ (d : Addr) (fs : List (Str × V)), H2 a = some (exo a C (some d)) ∧ H2 d = some (exd d fs) ∧ H1 d = none ∧ Q (.ref C) (some d) (upd (del H2 a) d (.xd fs)))
      V.non (upd (upd (upd (upd H1 a (exo a C none)) dx (exd dx [(n, u)])) a (exo a C (some dx))) dx (exd dx [(m, v), (n, u)])) := fun dx hd ne => by
  rw [upd_ne ne] at hd
  refine ⟨rfl, dx, [(m, v), (n, u)], by rw [upd_ne (Ne.symm ne), upd_same], upd_same, hd, k _ _ ⟨fun b o e => ?_, hd, upd_same⟩⟩
  rw [upd_ne (ne_of_none e hd), del_ne (ne_of_none e ha), upd_ne (ne_of_none e hd), upd_ne (ne_of_none e ha), upd_ne (ne_of_none e hd), upd_ne (ne_of_none e ha)]
  exact e
/-! ### check_same -/
def spSame (K : PySem.W.Frag) (C Cm : Addr) : Sp := fun vs H Q E => ∃ (a b : Addr) (R S : List Row) (c d : Nat), vs = [.ref a, .ref b] ∧ EfAt K C H a R ∧ EfAt K C H b S ∧ R.length = c + 1 ∧ S.length = d + 1 ∧ (c = d → Q .non H) ∧
  (c ≠ d → ∀ e H', ExD H H' e [("second", .int d), ("first", .int c)] → E (.ref Cm) (some e) H')
theorem scSame : FnScope ["first", "second"] ["first", "second"] (defScope sSame) := ⟨rfl, rfl, rfl, by decide +kernel, rfl, by decide +kernel, by decide +kernel⟩
theorem ok_same (F : Df K mg "check_same" sSame) (T : EfC K mg) (B : Nb mg) (M : xCapM K mg) (n1 : PySem.W.findIn K (.ref M.C) "first" = some none) (n2 : PySem.W.findIn K (.ref M.C) "second" = some none) : FnOk P w K mg base (L2.CX P w) 3 F.f F.fd ["first", "second"] (spSame K T.C M.C) := by
  refine F.F.okX scSame (fun vs H Q E h => ?_) (fun cdv A outer s H vs Q E hr h => ?_)
  · obtain ⟨a, b, R, S, c, d, rfl, _⟩ := h
    rfl
  · obtain ⟨a, b, R, S, c, d, rfl, h1, h2, h3, h4, k1, k2⟩ := h
    refine ⟨_, pss_one (ps_if (pt_cmpR op_ne (q_cap (k := 0) T B (pv 0) hr) (q_cap (k := 0) T B (pv 1) hr) (nomark _))
      (pss_one (ps_raise rfl (takes_of rfl rfl rfl rfl) (pmk_oex M.T M.iC M.tI (ok_capMI M n1 n2) hr (bCapMI M) .nil pass0 (by rfl) M.m (pa_cons (q_cap (k := 0) T B (pv 0) hr) (pa_cons (q_cap (k := 0) T B (pv 1) hr) pa_nil))))) pss_nil), ?_⟩
    have e1 := h1
    have e2 := h2
    obtain ⟨dx, t, g1, _⟩ := e1
    obtain ⟨dy, u, g2, _⟩ := e2
    refine ⟨_, rfl, a, dx, _, rfl, g1, a, R, c, rfl, h1, h3, _, rfl, b, dy, _, rfl, g2, b, S, d, rfl, h2, h4, rfl, _, rfl, ?_⟩
    by_cases hcd : c = d
    · subst hcd
      rw [decide_eq_true rfl]
      exact iteF (k1 rfl)
    · rw [decide_eq_false (fun z => hcd (by have := V.int.inj z; omega))]
      refine iteT ?_
      refine ⟨_, rfl, a, dx, _, rfl, g1, a, R, c, rfl, h1, h3, _, rfl, b, dy, _, rfl, g2, b, S, d, rfl, h2, h4, (by show 2 ≤ 1000; decide), fun x hx => ?_⟩
      exact ⟨x, _, _, rfl, upd_same, mk2 hx fun d' H' e => k2 hcd d' H' e⟩
end
end K30
set_option maxHeartbeats 4000000
namespace K30
open PySem L2
/-! ### rows as data: depth, shape -/
theorem row_depth : ∀ r : Row, (rowD r).depth ≤ 1
  | none => by simp [rowD, PyData.depth]
  | some (k, w) => by simp [rowD, PyData.depth, PyData.depthAll]
theorem rowsAll_depth : ∀ R : List Row, PyData.depthAll (R.map rowD) ≤ 1
  | [] => by simp [PyData.depthAll]
  | r :: R => by
    rw [List.map_cons, PyData.depthAll]
    exact Nat.max_le.mpr ⟨row_depth r, rowsAll_depth R⟩
theorem rows_depth (R : List Row) : (rowsD R).depth ≤ 2 := by
  unfold rowsD
  rw [PyData.depth]
  exact Nat.succ_le_succ (rowsAll_depth R)
def okW (R : List Row) : Prop := ∀ k w, some (k, w) ∈ R → ∀ c ∈ w, isLetter c
theorem strOk_S {w : List Nat} (h : ∀ c ∈ w, isLetter c) : PyData.strOk (S w) = true := by
  show w.toArray.all (fun x => decide (x < 0x110000)) = true
  rw [List.all_toArray, List.all_eq_true]
  exact fun c hc => decide_eq_true (by have := (h c hc).2; omega)
theorem row_can : ∀ {r : Row}, (∀ k w, r = some (k, w) → ∀ c ∈ w, isLetter c) → (rowD r).canLay0 = true
  | none, _ => by simp [rowD, PyData.canLay0]
  | some (k, w), h => by simp [rowD, PyData.canLay0, PyData.canLayAll0, strOk_S (h k w rfl)]
theorem rowsAll_can : ∀ {R : List Row}, okW R → PyData.canLayAll0 (R.map rowD) = true
  | [], _ => by simp [PyData.canLayAll0]
  | r :: R, h => by
    rw [List.map_cons, PyData.canLayAll0, row_can (r := r) fun k w e => h k w (e ▸ List.mem_cons_self ..), rowsAll_can fun k w e => h k w (List.mem_cons_of_mem _ e)]
    rfl
theorem rows_can {R : List Row} (h : okW R) : (rowsD R).canLay0 = true := by
  unfold rowsD
  rw [PyData.canLay0]
  exact rowsAll_can h
theorem rows_shaped {R : List Row} (h : okW R) : SeqAt.shaped (rowsD R) = true := by
  unfold SeqAt.shaped
  rw [rows_can h, decide_eq_true (Nat.le_trans (rows_depth R) (by decide))]
  rfl
theorem rows_eqv {R : List Row} (h : okW R) : PyData.eqv (rowsD R) (rowsD R) = true := SeqAt.eqv_refl _ (rows_can h)
theorem okRows_W {c : Nat} {R : List Row} (o : okRows c R) : okW R := fun k w h => by
  obtain ⟨i, hi, e⟩ := List.mem_iff_getElem.mp h
  exact (o.2 i _ (by rw [List.getElem?_eq_getElem hi, e]) k w rfl).2.1
theorem row_show : ∀ {r : Row}, (∀ k w, r = some (k, w) → k ≤ 100) → (rowD r).showable = true
  | none, _ => by simp [rowD, PyData.showable]
  | some (k, w), h => by
    have := h k w rfl
    have e : ((k : Int).natAbs).log2 < 1920 := by
      rw [Int.natAbs_natCast]
      exact Nat.lt_of_le_of_lt (Nat.le_trans (Nat.log2_le_self k) this) (by decide)
    simp [rowD, PyData.showable, PyData.showableAll]
    simpa using e
theorem rowsAll_show : ∀ {R : List Row}, (∀ k w, some (k, w) ∈ R → k ≤ 100) → PyData.showableAll (R.map rowD) = true
  | [], _ => by simp [PyData.showableAll]
  | r :: R, h => by
    rw [List.map_cons, PyData.showableAll, row_show (r := r) fun k w e => h k w (e ▸ List.mem_cons_self ..), rowsAll_show fun k w e => h k w (List.mem_cons_of_mem _ e)]
    rfl
theorem rows_show {R : List Row} (h : ∀ k w, some (k, w) ∈ R → k ≤ 100) : (rowsD R).showable = true := by
  unfold rowsD
  rw [PyData.showable]
  exact rowsAll_show h
theorem rows_nodict {R : List Row} (h : okW R) : (rowsD R).hasDict = false := PyData.hasDict_of_canLay _ (rows_can h)
theorem okRows_kept {c : Nat} {R : List Row} (o : okRows c R) : ∀ k w, some (k, w) ∈ R → k ≤ c := fun k w h => by
  obtain ⟨i, hi, e⟩ := List.mem_iff_getElem.mp h
  have := o.2 i _ (by rw [List.getElem?_eq_getElem hi, e]) k w rfl
  have := o.1
  omega
/-- the text of an effect -/
def efText (c : Nat) (R : List Row) : Str := ((((Str.empty ++ ("Effect(" : Str)) ++ Str.ofString (toString (c : Int))) ++ (", " : Str)) ++ (rowsD R).shown) ++ (")" : Str)
section
variable {P : Program} {w : World} {K : PySem.W.Frag} {mg : Str → Option Value} {base : Heap}
/-- Effect(c, rows): what it leaves -/
theorem make_ef {C : Addr} {H : Hp} {Q : VK} {E : XK} {t : Addr} {c : Nat} {R : List Row} {xs : List V} (hs : SqT K H t xs ∨ H t = some (.lst xs)) (ha : DpAll K H xs (R.map rowD)) (h1 : 1 ≤ c) (h2 : c ≤ 100) (o : okRows c R) (k : ∀ H' p, Ext H H' → EfAt K C H' p R → Q (.ref p) H') :
    ∀ x dx, H x = none → H dx = none → dx ≠ x → spInit K C [.ref x, .int c, .ref t] (upd (upd H dx (.own x)) x (.ins C dx [])) (fun v H2 => v = .non ∧ Q (.ref x) H2) E := fun x dx hx hdx ne => by
  have e : Ext H (upd (upd H dx (.own x)) x (.ins C dx [])) := fun b o h => by rw [upd_ne (ne_of_none h hx), upd_ne (ne_of_none h hdx)]; exact h
  refine ⟨x, dx, t, c, xs, R, rfl, upd_same, ?_, dpAll_ext' e ha, h1, h2, o, fun H' q g => ⟨rfl, k H' x (fun b u h => g b u (e b u h) (ne_of_none h hx)) q⟩⟩
  rcases hs with h | h
  · exact .inl (h.ext e)
  · exact .inr (e _ _ h)
/-! ### the classmethods -/
def spIdent (K : PySem.W.Frag) (C : Addr) : Sp := fun vs H Q _ => ∃ (c : Nat), vs = [.ref C, .int c] ∧ 1 ≤ c ∧ c ≤ 100 ∧ ∀ H' p, Ext H H' → EfAt K C H' p (idRows c) → Q (.ref p) H'
theorem scIdent : FnScope ["cls", "capacity"] ["cls", "capacity"] (defScope (mE 1)) := ⟨rfl, rfl, rfl, by decide +kernel, rfl, by decide +kernel, by decide +kernel⟩
theorem bIdRows (F : Df K mg "identity_rows" sIdRows) : Binds K F.fd ["capacity"] [] := F.F.binds (ps := ["capacity"]) fun _ _ _ _ _ _ us hl => match us, hl with | [_], _ => rfl
theorem ok_ident (F : DfM K "identity" "Effect.identity" (mE 1)) (T : EfC K mg) (GI : FnOk P w K mg base CX0 6 T.fI.f T.fI.fd ["self", "capacity", "rows"] (spInit K T.C)) (FC : Df K mg "check_capacity" sChkCap) (GC : FnOk P w K mg base CX0 3 FC.f FC.fd ["value"] spChkCap)
    (FI : Df K mg "identity_rows" sIdRows) (GR : FnOk P w K mg base CX0 1 FI.f FI.fd ["capacity"] (spIdRows K)) : FnOk P w K mg base CX0 8 F.f F.fd ["cls", "capacity"] (spIdent K T.C) := by
  refine F.F.ok scIdent (fun vs H Q E h => ?_) (fun cdv A outer s H vs Q E hr h => ?_)
  · obtain ⟨c, rfl, _⟩ := h
    rfl
  · obtain ⟨c, rfl, h1, h2, k⟩ := h
    refine ⟨_, pss_cons (ps_expr (pe_call GC (hr.mono (by decide)) (by rfl) FC.m FC.F.kp (bChkCap FC) .nil pass0 (pa_cons (pv 1) pa_nil)))
      (pss_one (ps_ret (pe_makeL (i := 0) T.M GI hr rfl (.inl rfl) (bInit T) .nil pass0 (pa_cons (pv 1) (pa_cons (pe_call GR (hr.mono (by decide)) (by rfl) FI.m FI.F.kp (bIdRows FI) .nil pass0 (pa_cons (pv 1) pa_nil)) pa_nil))))), ?_⟩
    refine ⟨_, rfl, c, rfl, by omega, by omega, rfl, _, rfl, _, rfl, c, rfl, h2, fun H' z e dz => ?_⟩
    obtain ⟨t, xs, rfl, hs, ha⟩ := rows_inv dz
    exact make_ef (.inl hs) ha h1 h2 (idRows_ok c) fun H2 p e2 q => k H2 p (e.trans e2) q
def spFail (K : PySem.W.Frag) (C : Addr) : Sp := fun vs H Q _ => ∃ (c : Nat), vs = [.ref C, .int c] ∧ 1 ≤ c ∧ c ≤ 100 ∧ ∀ H' p, Ext H H' → EfAt K C H' p (failRows c) → Q (.ref p) H'
theorem scFail : FnScope ["cls", "capacity"] ["cls", "capacity"] (defScope (mE 2)) := ⟨rfl, rfl, rfl, by decide +kernel, rfl, by decide +kernel, by decide +kernel⟩
theorem flat_rep : ∀ n : Nat, (List.replicate n [V.non]).flatten = List.replicate n V.non
  | 0 => rfl
  | n + 1 => by rw [List.replicate_succ, List.flatten_cons, flat_rep n, List.replicate_succ]; rfl
theorem dpAll_non {H : Hp} : ∀ n : Nat, DpAll K H (List.replicate n V.non) ((List.replicate n (none : Row)).map rowD)
  | 0 => .nil
  | n + 1 => by rw [List.replicate_succ, List.replicate_succ, List.map_cons]; exact .cons .non (dpAll_non n)
theorem ok_fail (F : DfM K "failing" "Effect.failing" (mE 2)) (T : EfC K mg) (GI : FnOk P w K mg base CX0 6 T.fI.f T.fI.fd ["self", "capacity", "rows"] (spInit K T.C)) (FC : Df K mg "check_capacity" sChkCap) (GC : FnOk P w K mg base CX0 3 FC.f FC.fd ["value"] spChkCap) :
    FnOk P w K mg base CX0 8 F.f F.fd ["cls", "capacity"] (spFail K T.C) := by
  refine F.F.ok scFail (fun vs H Q E h => ?_) (fun cdv A outer s H vs Q E hr h => ?_)
  · obtain ⟨c, rfl, _⟩ := h
    rfl
  · obtain ⟨c, rfl, h1, h2, k⟩ := h
    refine ⟨_, pss_cons (ps_expr (pe_call GC (hr.mono (by decide)) (by rfl) FC.m FC.F.kp (bChkCap FC) .nil pass0 (pa_cons (pv 1) pa_nil)))
      (pss_one (ps_ret (pe_makeL (i := 0) T.M GI hr rfl (.inl rfl) (bInit T) .nil pass0 (pa_cons (pv 1) (pa_cons (pe_op op_repT (pe_tup (pa_cons pe_non pa_nil)) (pe_op op_add (pv 1) pe_int)) pa_nil))))), ?_⟩
    refine ⟨_, rfl, c, rfl, by omega, by omega, rfl, _, rfl, (by show 1 ≤ sizeLine; rw [sizeLine_eq]; decide), fun p hp => ?_⟩
    refine ⟨_, rfl, _, _, rfl, rfl, p, _, [.non], rfl, rfl, SqT.of upd_same, by simp, by omega, by omega, (by show 1 ≤ 1000; decide), fun q hq => ?_⟩
    have e2 : Ext H (upd (upd H p (.tup [.non])) q (.tup (List.replicate ((c : Int) + 1).toNat [V.non]).flatten)) := (Ext.upd hp).trans (Ext.upd hq)
    refine make_ef (R := failRows c) (.inl (SqT.of upd_same)) ?_ h1 h2 (failRows_ok c) fun H2 p' e3 g => k H2 p' (e2.trans e3) g
    rw [flat_rep, show ((c : Int) + 1).toNat = c + 1 by omega]
    exact dpAll_non (c + 1)
/-! ### __eq__ of equal ones -/
def ReqE (K : PySem.W.Frag) (C : Addr) : Addr → Addr → Hp → Prop := fun a b H => ∃ R, okW R ∧ EfAt K C H a R ∧ EfAt K C H b R
theorem scEq : FnScope ["self", "other"] ["self", "other"] (defScope (mE 15)) := ⟨rfl, rfl, rfl, by decide +kernel, rfl, by decide +kernel, by decide +kernel⟩
theorem ok_eq (F : DfM K "__eq__" "Effect.__eq__" (mE 15)) (T : EfC K mg) (B : Nb mg) : FnOk P w K mg base CX0 1 F.f F.fd ["self", "other"] (spEq (ReqE K T.C)) := by
  refine F.F.ok scEq (fun vs H Q E h => ?_) (fun cdv A outer s H vs Q E hr h => ?_)
  · obtain ⟨a, b, rfl, _⟩ := h
    rfl
  · obtain ⟨a, b, rfl, ⟨R, o, h1, h2⟩, k⟩ := h
    refine ⟨_, pss_one (ps_ret (pe_and (q_isi (pv 1) (pe_glob (v := .ref T.C) (by rfl) T.m rfl) B) (pe_one (pe_cmpR (op_eqD hr.units) (pe_fld (pv 0) rfl) (pe_fld (pv 1) rfl) (nomark _))))), ?_⟩
    refine ⟨_, rfl, _, _, _, _, true, rfl, .own _, T.ty h2, kit_own, true, rfl, iteT ?_⟩
    obtain ⟨dx, t, g1, d1⟩ := h1
    obtain ⟨dy, u, g2, d2⟩ := h2
    refine ⟨_, rfl, a, T.C, dx, _, _, rfl, g1, T.cl, T.nA, rfl, _, rfl, b, T.C, dy, _, _, rfl, g2, T.cl, T.nA, rfl, _, _, d1, d2, rows_shaped o, rows_shaped o, ?_⟩
    rw [rows_eqv o]
    exact k H Ext.rfl'
/-! ### __repr__ -/
def spRepr (K : PySem.W.Frag) (C : Addr) : Sp := fun vs H Q _ => ∃ (a : Addr) (c : Nat) (R : List Row), vs = [.ref a] ∧ EfAt K C H a R ∧ c ≤ 100 ∧ okRows c R ∧ (rowsD R).shown.length ≤ 50000 ∧ Q (.str (efText c R)) H
theorem scRepr : FnScope ["self"] ["self"] (defScope (mE 16)) := ⟨rfl, rfl, rfl, by decide +kernel, rfl, by decide +kernel, by decide +kernel⟩
theorem str_app_len (a b : Str) : (a ++ b).length = a.length + b.length := by
  show (a.cps ++ b.cps).size = _
  rw [Array.size_append]
  rfl
theorem nat_text_len {c : Nat} (h : c ≤ 100) : (Str.ofString (toString (c : Int))).length ≤ 3 := by
  have : ∀ n : Fin 101, (Str.ofString (toString ((n.val : Nat) : Int))).length ≤ 3 := by decide +kernel
  exact this ⟨c, by omega⟩
theorem ok_repr (F : DfM K "__repr__" "Effect.__repr__" (mE 16)) (T : EfC K mg) (B : Nb mg) : FnG P w K mg base CX0 3 F.f F.fd ["self"] (spRepr K T.C) := by
  refine Fun.okG F.F scRepr (fun vs H Q E h => ?_) (fun cdv A outer s H vs Q E hg hr h => ?_)
  · obtain ⟨a, c, R, rfl, _⟩ := h
    rfl
  · obtain ⟨a, c, R, rfl, hA, h1, o, hz, k⟩ := h
    refine ⟨_, pss_one (ps_ret (pe_joined (.cons pe_str (.cons (pe_fmt (q_cap (k := 0) T B (pv 0) hr)) (.cons pe_str (.cons (pe_fmtD hg (by have := hr.units; exact this) (pe_fld (pv 0) rfl)) (.cons pe_str .nil))))))), ?_⟩
    obtain ⟨dx, t, g1, d1⟩ := id hA
    have hc := nat_text_len h1
    have l0 : Str.empty.length = 0 := rfl
    have l1 : (Str.ofString "Effect(").length = 7 := by decide +kernel
    have l2 : (Str.ofString ", ").length = 2 := by decide +kernel
    have l3 : (Str.ofString ")").length = 1 := by decide +kernel
    refine ⟨_, rfl, ?_, _, rfl, a, dx, _, rfl, g1, a, R, c, rfl, hA, o.1, .inr ⟨_, rfl, ?_, _, rfl, ?_, _, rfl, ?_, _, rfl, a, T.C, dx, _, _, rfl, g1, T.cl, T.nA, rfl, t, _, rfl, d1, rows_show fun k w h => Nat.le_trans (okRows_kept o k w h) h1, rows_nodict (okRows_W o), Nat.le_trans (rows_depth R) (by decide), by omega, _, rfl, ?_, _, rfl, ?_, ?_⟩⟩
    · rw [str_app_len, l1, sizeLine_eq]; omega
    · rw [Int.natAbs_natCast]; exact Nat.lt_of_le_of_lt (Nat.le_trans (Nat.log2_le_self c) h1) (by decide)
    · rw [str_app_len, str_app_len, l1, sizeLine_eq]; omega
    · rw [str_app_len, str_app_len, str_app_len, l1, l2, sizeLine_eq]; omega
    · rw [str_app_len, str_app_len, str_app_len, str_app_len, l1, l2, sizeLine_eq]; omega
    · rw [str_app_len, str_app_len, str_app_len, str_app_len, str_app_len, l1, l2, l3, sizeLine_eq]; omega
    · exact k
end
end K30
set_option maxHeartbeats 4000000
namespace K30
open PySem L2
theorem while_d {c : TT} {tb : TS} {D : Ends} {σ : L2.St} {H : Hp} (Pv : L2.St → Hp → Prop) (μ : L2.St → Hp → Nat) (h0 : Pv σ H)
    (hs : ∀ σ H, Pv σ H → c σ H fun b H1 => if b = true then ∃ N : L2.St → Hp → Prop, (∀ σ' H', N σ' H' → ∃ m', m' < μ σ H ∧ (m' = μ σ' H' ∧ Pv σ' H')) ∧ tb { D with nx := N, ct := N, bk := D.nx } σ H1 else D.nx σ H1) : tWhile c tb D σ H :=
  ⟨fun m σ H => m = μ σ H ∧ Pv σ H, ⟨_, rfl, h0⟩, by rintro m σ H ⟨rfl, p⟩; exact hs σ H p⟩
def slotN (σ : L2.St) (i : Nat) : Nat := match σ[i]? with
  | some (some (V.int j)) => j.toNat
  | _ => 0
theorem lower {μ : L2.St → Hp → Nat} {Pv : L2.St → Hp → Prop} {n : Nat} : ∀ σ' H', (Pv σ' H' ∧ μ σ' H' < n) → ∃ m', m' < n ∧ (m' = μ σ' H' ∧ Pv σ' H') := fun σ' H' ⟨p, l⟩ => ⟨_, l, rfl, p⟩
section
variable {P : Program} {w : World} {K : PySem.W.Frag} {mg : Str → Option Value} {base : Heap}
/-! ### __mul__ of effects of one capacity -/
def spMul (K : PySem.W.Frag) (C : Addr) : Sp := fun vs H Q _ => ∃ (a b : Addr) (c : Nat) (R S : List Row), vs = [.ref a, .ref b] ∧ EfAt K C H a R ∧ EfAt K C H b S ∧ 1 ≤ c ∧ c ≤ 100 ∧ okRows c R ∧ okRows c S ∧ ∀ H' p, Ext H H' → EfAt K C H' p (jrows R S) → Q (.ref p) H'
theorem scMul : FnScope ["self", "other"] ["self", "other"] (defScope (mE 13)) := ⟨rfl, rfl, rfl, by decide +kernel, rfl, by decide +kernel, by decide +kernel⟩
theorem bSame (F : Df K mg "check_same" sSame) : Binds K F.fd ["first", "second"] [] := F.F.binds (ps := ["first", "second"]) fun _ _ _ _ _ _ us hl => match us, hl with | [_, _], _ => rfl
theorem bJrows (F : Df K mg "joined_rows" sJrows) : Binds K F.fd ["first", "second"] [] := F.F.binds (ps := ["first", "second"]) fun _ _ _ _ _ _ us hl => match us, hl with | [_, _], _ => rfl
theorem ok_mul (F : DfM K "__mul__" "Effect.__mul__" (mE 13)) (T : EfC K mg) (B : Nb mg) (GI : FnOk P w K mg base CX0 6 T.fI.f T.fI.fd ["self", "capacity", "rows"] (spInit K T.C)) (FS : Df K mg "check_same" sSame) {Cm : Addr} (GS : FnOk P w K mg base (L2.CX P w) 3 FS.f FS.fd ["first", "second"] (spSame K T.C Cm))
    (FJ : Df K mg "joined_rows" sJrows) (GJ : FnOk P w K mg base CX0 2 FJ.f FJ.fd ["first", "second"] (spJrows K)) : FnOk P w K mg base CX0 8 F.f F.fd ["self", "other"] (spMul K T.C) := by
  refine F.F.ok scMul (fun vs H Q E h => ?_) (fun cdv A outer s H vs Q E hr h => ?_)
  · obtain ⟨a, b, c, R, S, rfl, _⟩ := h
    rfl
  · obtain ⟨a, b, c, R, S, rfl, hA, hB, h1, h2, oR, oS, k⟩ := h
    have hr2 : Room 2 _ := hr.mono (by decide)
    refine ⟨_, pss_cons (ps_if (pt_not (pt_val (q_isi (pv 1) (pe_glob (v := .ref T.C) (by rfl) T.m rfl) B))) (pss_one ps_never) pss_nil)
      (pss_cons (ps_expr (pe_call (E := E0) GS (hr.mono (by decide)) (by rfl) FS.m FS.F.kp (bSame FS) .nil passL (pa_cons (pv 0) (pa_cons (pv 1) pa_nil))))
      (pss_one (ps_ret (pe_make T.M GI hr (by rfl) T.m (bInit T) .nil pass0 (pa_cons (q_cap (k := 0) T B (pv 0) hr2) (pa_cons (pe_call GJ hr2 (by rfl) FJ.m FJ.F.kp (bJrows FJ) .nil pass0 (pa_cons (pe_fld (pv 0) rfl) (pa_cons (q_rows (k := 0) T (pv 1) hr2) pa_nil))) pa_nil)))))), ?_⟩
    refine ⟨_, rfl, _, _, _, _, true, rfl, .own _, T.ty hB, kit_own, true, rfl, iteF ?_⟩
    refine ⟨_, rfl, _, rfl, a, b, R, S, c, c, rfl, hA, hB, oR.1, oS.1, fun _ => ?_, fun z => absurd rfl z⟩
    obtain ⟨dx, t, g1, d1⟩ := id hA
    obtain ⟨dy, u, g2, d2⟩ := id hB
    refine ⟨_, rfl, a, dx, _, rfl, g1, a, R, c, rfl, hA, oR.1, _, rfl, a, T.C, dx, _, _, rfl, g1, T.cl, T.nA, rfl, _, rfl, b, dy, _, rfl, g2, b, S, rfl, hB, fun u' d2' => ?_⟩
    refine ⟨_, _, R, S, c, rfl, d1, d2', h2, oR, oS, fun H' z e dz => ?_⟩
    obtain ⟨t3, xs, rfl, hs, ha⟩ := rows_inv dz
    exact make_ef (.inl hs) ha h1 h2 (jrows_ok oR oS) fun H2 p e2 q => k H2 p (e.trans e2) q
/-! ### span_of: all of the text -/
def spSpan : Sp := fun vs H Q _ => ∃ z ls : List Nat, vs = [.str (S z), .int 0, .str (S ls)] ∧ z.length ≤ 1000 ∧ (∀ c ∈ z, c ∈ ls) ∧ Q (.int z.length) H
theorem scSpan : FnScope ["text", "start", "characters", "end"] ["text", "start", "characters"] (defScope sSpan) := ⟨rfl, rfl, rfl, by decide +kernel, rfl, by decide +kernel, by decide +kernel⟩
theorem ok_span (F : Df K mg "span_of" sSpan) (B : Nb mg) : FnOk P w K mg base CX0 1 F.f F.fd ["text", "start", "characters"] spSpan := by
  refine F.F.ok scSpan (fun vs H Q E h => ?_) (fun cdv A outer s H vs Q E hr h => ?_)
  · obtain ⟨z, ls, rfl, _⟩ := h
    rfl
  · obtain ⟨z, ls, rfl, hz, hall, k⟩ := h
    refine ⟨_, pss_cons (ps_set (i := 3) scSpan.nd rfl (Or.inl rfl) (pv 1))
      (pss_cons (ps_while PassesOwn.never (PW.pt (pw_and (pt_cmpR op_lt (pv 3) (q_lenS (pv 0) B) (nomark _)) (pw_and1 (pt_cmpR op_in_sign (pe_item_str (pv 0) (pv 3) (fun _ _ => rfl)) (pv 2) (by rfl))))) (pss_one (ps_aug (i := 3) scSpan.nd rfl (Or.inl rfl) pe_int ip_add)))
      (pss_one (ps_ret (pv 3)))), ?_⟩
    refine ⟨_, rfl, while_d (fun σ H' => H' = H ∧ ∃ i : Nat, i ≤ z.length ∧ σ = [some (.str (S z)), some (.int 0), some (.str (S ls)), some (.int (i : Int))]) (fun σ _ => z.length - slotN σ 3) ⟨rfl, 0, Nat.zero_le _, rfl⟩ ?_⟩
    rintro σ H' ⟨rfl, i, hi, rfl⟩
    refine ⟨_, rfl, _, rfl, z, rfl, by omega, _, _, rfl, rfl, _, rfl, ?_⟩
    by_cases c : i < z.length
    · rw [decide_eq_true (show (i : Int) < (z.length : Int) by omega)]
      have hc : z.toArray[i]? = some z[i] := by rw [List.getElem?_toArray, List.getElem?_eq_getElem c]
      refine iteT ⟨_, rfl, _, rfl, S z, (i : Int), z[i], rfl, rfl, by omega, by omega, (by rw [S_len]; omega), hc, _, rfl, _, _, rfl, rfl, true, ?_, iteT ?_⟩
      · exact congrArg V.bl (decide_eq_true (hall _ (List.getElem_mem c)))
      · refine ⟨_, lower, _, rfl, _, _, rfl, rfl, ⟨rfl, i + 1, c, rfl⟩, ?_⟩
        show z.length - ((i : Int) + 1).toNat < z.length - ((i : Int)).toNat
        omega
    · rw [decide_eq_false (show ¬ (i : Int) < (z.length : Int) by omega)]
      refine iteF (iteF ?_)
      have : i = z.length := by omega
      subst this
      exact ⟨_, rfl, k⟩
/-! ### parse: one word -/
theorem bSpan (F : Df K mg "span_of" sSpan) : Binds K F.fd ["text", "start", "characters"] [] := F.F.binds (ps := ["text", "start", "characters"]) fun _ _ _ _ _ _ us hl => match us, hl with | [_, _, _], _ => rfl
def sSTEPS : List Nat := sLETTERS ++ [45]
def isStep (c : Nat) : Prop := isLetter c ∨ c = 45
theorem steps_iff {c : Nat} : c ∈ sSTEPS ↔ isStep c := by
  unfold sSTEPS isStep
  rw [List.mem_append, letters_iff]
  simp
def rCutS : V → Option Int → Option Int → Hp → VK → Prop := fun x lo hi H Q => ∃ w, x = .str (S w) ∧ lo = some 0 ∧ hi = some (w.length : Int) ∧ w.length ≤ 100000 ∧ Q (.str (S w)) H
theorem sl_cutS {X : Cx} : SlR X rCutS := by
  intro pins s σ H x v vl vu lo hi sl Q I rx hs pl pu h
  obtain ⟨w, hx, rfl, rfl, hz, q⟩ := h
  exact sl_str pins s σ H x v vl vu _ _ sl Q I rx hs pl pu ⟨_, hx, by rw [S_len, sizeLine_eq]; omega, by
    show Q (.str (cutS (S w) (some ((0 : Nat) : Int)) (some (w.length : Int)))) H
    rw [cut_mid (k := 0) (l := w.length) rfl rfl (Nat.zero_le _) (Nat.le_refl _), List.drop_zero, Nat.sub_zero, List.take_length]; exact q⟩
def spParse : Sp := fun vs H Q _ => ∃ z : List Nat, vs = [.str (S z)] ∧ z ≠ [] ∧ z.length ≤ 1000 ∧ (∀ c ∈ z, isStep c) ∧ ∀ H' l, Ext H H' → H' l = some (.lst [.str (S z)]) → Q (.ref l) H'
theorem scParse : FnScope ["text", "open_lists", "at", "end", "items"] ["text"] (defScope sParse) := ⟨rfl, rfl, rfl, by decide +kernel, rfl, by decide +kernel, by decide +kernel⟩
theorem ok_parse (F : Df K mg "parse" sParse) (B : Nb mg) (FS : Df K mg "span_of" sSpan) (GS : FnOk P w K mg base CX0 1 FS.f FS.fd ["text", "start", "characters"] spSpan) {tk : Tok} (mS : mg "STEPS" = some (.str (S sSTEPS) tk)) : FnOk P w K mg base CX0 2 F.f F.fd ["text"] spParse := by
  refine F.F.ok scParse (fun vs H Q E h => ?_) (fun cdv A outer s H vs Q E hr h => ?_)
  · obtain ⟨z, rfl, _⟩ := h
    rfl
  · obtain ⟨z, rfl, hne, hz, hall, k⟩ := h
    have hpos : 0 < z.length := List.length_pos_iff.mpr hne
    refine ⟨_, pss_cons (ps_set (i := 1) scParse.nd rfl (Or.inl rfl) (pe_lst (pa_cons (pe_lst pa_nil) pa_nil)))
      (pss_cons (ps_set (i := 2) scParse.nd rfl (Or.inl rfl) pe_int)
      (pss_cons (ps_while PassesOwn.never (pt_cmpR op_lt (pv 2) (q_lenS (pv 0) B) (nomark _))
        (pss_one (ps_ifW (ptw_cmp op_gt (pew_named (i := 3) scParse.nd rfl (Or.inl rfl) (pew_of (pe_call GS hr (by rfl) FS.m FS.F.kp (bSpan FS) .nil pass0 (pa_cons (pv 0) (pa_cons (pv 2) (pa_cons (pe_glob (v := .str (S sSTEPS)) (by rfl) mS ⟨_, rfl⟩) pa_nil)))))) (pv 2) (nomark _))
          (pss_cons (ps_expr (pe_bm PySem.F.plainAttrs_list PySem.F.slot_list_append PySem.F.type_list_append mt_append (pe_ix ix_list (pv 1) (pe_un un_neg pe_int) (fun _ _ => rfl)) (pa_cons (pe_slice sl_cutS (pv 0) (po_some (pv 2)) (po_some (pv 3))) pa_nil)))
            (pss_one (ps_set (i := 2) scParse.nd rfl (Or.inl rfl) (pv 3))))
          (pss_one ps_never))))
      (pss_one (ps_ret (pe_ifExp (pt_cmpR op_eq (q_len (pv 1) B) pe_int (nomark _)) (pe_ix ix_list (pv 1) pe_int (fun _ _ => rfl)) pe_non))))), ?_⟩
    refine ⟨(by show 0 ≤ sizeLine; rw [sizeLine_eq]; decide), fun q hq => ⟨(by show 1 ≤ sizeLine; rw [sizeLine_eq]; decide), fun l hl => ?_⟩⟩
    have nql : q ≠ l := fun e => by subst e; rw [upd_same] at hl; cases hl
    have hl0 : H l = none := by rw [upd_ne (Ne.symm nql)] at hl; exact hl
    have e0 : Ext H (upd (upd H q (.lst [])) l (.lst [.ref q])) := (Ext.upd hq).trans (Ext.upd hl)
    have fin : ∀ σ H', σ = [some (.str (S z)), some (.ref l), some (.int (z.length : Int)), some (.int (z.length : Int)), none] → H' = upd (upd (upd H q (.lst [])) l (.lst [.ref q])) q (.lst [.str (S z)]) →
        (tIf (tTest (tOp rEq (tCB (rLenQ K) (tCons (tVar 1) tNil)) (tC (.int 1)))) (tOp (rIxL K) (tVar 1) (tC (.int 0))) (tC .non)) σ H' Q := by
      rintro σ H' rfl rfl
      have hL : (upd (upd (upd H q (.lst [])) l (.lst [.ref q])) q (.lst [.str (S z)])) l = some (.lst [.ref q]) := by rw [upd_ne (Ne.symm nql), upd_same]
      refine ⟨_, rfl, l, _, rfl, .inl (SqL.of hL), rfl, true, rfl, iteT ?_⟩
      refine ⟨_, rfl, l, [.ref q], 0, .ref q, rfl, rfl, SqL.of hL, rfl, k _ q ?_ upd_same⟩
      intro b o hb
      rw [upd_ne (ne_of_none hb hq), upd_ne (ne_of_none hb hl0), upd_ne (ne_of_none hb hq)]
      exact hb
    refine while_d (fun σ H' => (σ = [some (.str (S z)), some (.ref l), some (.int 0), none, none] ∧ H' = upd (upd H q (.lst [])) l (.lst [.ref q])) ∨
        (σ = [some (.str (S z)), some (.ref l), some (.int (z.length : Int)), some (.int (z.length : Int)), none] ∧ H' = upd (upd (upd H q (.lst [])) l (.lst [.ref q])) q (.lst [.str (S z)])))
      (fun σ _ => z.length - slotN σ 2) (.inl ⟨rfl, rfl⟩) ?_
    rintro σ H' (⟨rfl, rfl⟩ | ⟨hσ, hH⟩)
    · refine ⟨_, rfl, _, rfl, z, rfl, by omega, _, _, rfl, rfl, true, ?_, iteT ⟨_, lower, ?_⟩⟩
      · exact congrArg V.bl (decide_eq_true (show (0 : Int) < (z.length : Int) by omega))
      refine ⟨_, rfl, _, rfl, z, sSTEPS, rfl, hz, fun c hc => steps_iff.mpr (hall c hc), _, rfl, _, _, rfl, rfl, true, ?_, iteT ?_⟩
      · exact congrArg V.bl (decide_eq_true (show (0 : Int) < (z.length : Int) by omega))
      have hL : (upd (upd H q (.lst [])) l (.lst [.ref q])) l = some (.lst [.ref q]) := upd_same
      have hQ : (upd (upd H q (.lst [])) l (.lst [.ref q])) q = some (.lst []) := by rw [upd_ne nql, upd_same]
      refine ⟨_, rfl, 1, rfl, l, [.ref q], -1, .ref q, rfl, rfl, SqL.of hL, rfl, .inl ⟨rfl, _, SqL.of hQ⟩, ?_⟩
      refine ⟨_, rfl, _, rfl, _, rfl, _, rfl, _, rfl, z, rfl, rfl, rfl, by omega, q, [], _, rfl, rfl, hQ, (by show 0 < sizeLine; rw [sizeLine_eq]; decide), ?_⟩
      refine ⟨_, rfl, .inr ⟨rfl, rfl⟩, ?_⟩
      show z.length - ((z.length : Int)).toNat < z.length - (0 : Int).toNat
      omega
    · have f := fin σ H' hσ hH
      subst hσ
      refine ⟨_, rfl, _, rfl, z, rfl, by omega, _, _, rfl, rfl, false, ?_, iteF f⟩
      exact congrArg V.bl (decide_eq_false (show ¬ (z.length : Int) < (z.length : Int) by omega))
/-! ### items_of -/
theorem scItems : FnScope ["program", "items"] ["program"] (defScope sItems) := ⟨rfl, rfl, rfl, by decide +kernel, rfl, by decide +kernel, by decide +kernel⟩
theorem bParse (F : Df K mg "parse" sParse) : Binds K F.fd ["text"] [] := F.F.binds (ps := ["text"]) fun _ _ _ _ _ _ us hl => match us, hl with | [_], _ => rfl
theorem ok_items (F : Df K mg "items_of" sItems) (B : Nb mg) (FP : Df K mg "parse" sParse) (GP : FnOk P w K mg base CX0 2 FP.f FP.fd ["text"] spParse) : FnOk P w K mg base CX0 3 F.f F.fd ["program"] spParse := by
  refine F.F.ok scItems (fun vs H Q E h => ?_) (fun cdv A outer s H vs Q E hr h => ?_)
  · obtain ⟨z, rfl, _⟩ := h
    rfl
  · obtain ⟨z, rfl, hne, hz, hall, k⟩ := h
    refine ⟨_, pss_cons (ps_set (i := 1) scItems.nd rfl (Or.inl rfl) (pe_ifExp (pt_val (q_isi (pv 0) (q_Tstr B) B)) (pe_call GP hr (by rfl) FP.m FP.F.kp (bParse FP) .nil pass0 (pa_cons (pv 0) pa_nil)) pe_non))
      (pss_cons (ps_if (pt_cmpR op_isN (pv 1) pe_non (nomark _)) (pss_one ps_never) pss_nil) (pss_one (ps_ret (pv 1)))), ?_⟩
    refine ⟨_, rfl, _, _, _, _, true, rfl, .ty _, .base (.str _), kit_ty (by decide +kernel), true, rfl, iteT ?_⟩
    refine ⟨_, rfl, z, rfl, hne, hz, hall, fun H' l e hl => ⟨_, rfl, rfl, false, rfl, iteF ⟨_, rfl, k H' l e hl⟩⟩⟩
end
end K30
set_option maxHeartbeats 4000000
namespace K30
open PySem L2
/-! ### a step on a row -/
def modeS (m : Nat) : Str := match m with
  | 0 => "oldest"
  | 1 => "newest"
  | _ => "strict"
def rafter (cap m c : Nat) : Row → Row
  | none => none
  | some (k, w) =>
    if c = 45 then if k + w.length = 0 then none else if 0 < k then some (k - 1, w) else some (0, w.drop 1)
    else if k + w.length < cap then some (k, w ++ [c])
    else if m = 0 then if 0 < k then some (k - 1, w ++ [c]) else some (0, w.drop 1 ++ [c])
    else if m = 1 then some (k, w) else none
def wordRows (cap m : Nat) (z : List Nat) : List Row := z.foldl (fun R c => R.map (rafter cap m c)) (idRows cap)
theorem rafter_ok {cap m c n : Nat} {r : Row} (h1 : 1 ≤ cap) (hc : isStep c) (h : okRow n cap r) : okRow n cap (rafter cap m c r) := by
  match r, h with
  | none, _ => intro k w e; cases e
  | some (k, w), h =>
    obtain ⟨a1, a2, a3⟩ := h k w rfl
    have tailL : ∀ x ∈ w.drop 1, isLetter x := fun x hx => a2 x (List.mem_of_mem_drop hx)
    intro j v e
    simp only [rafter] at e
    by_cases c1 : c = 45
    · rw [if_pos c1] at e
      by_cases c2 : k + w.length = 0
      · rw [if_pos c2] at e; cases e
      · rw [if_neg c2] at e
        by_cases c3 : 0 < k
        · rw [if_pos c3] at e; cases e; exact ⟨by omega, a2, by omega⟩
        · rw [if_neg c3] at e; cases e; exact ⟨by omega, tailL, by rw [List.length_drop]; omega⟩
    · rw [if_neg c1] at e
      have hl : isLetter c := by rcases hc with hc | hc; exact hc; exact absurd hc c1
      have snoc : ∀ {u : List Nat}, (∀ x ∈ u, isLetter x) → ∀ x ∈ u ++ [c], isLetter x := fun hu x hx => by
        rcases List.mem_append.mp hx with hx | hx
        · exact hu x hx
        · rw [List.mem_singleton.mp hx]; exact hl
      by_cases c2 : k + w.length < cap
      · rw [if_pos c2] at e; cases e; exact ⟨a1, snoc a2, by rw [List.length_append]; simp; omega⟩
      · rw [if_neg c2] at e
        by_cases c3 : m = 0
        · rw [if_pos c3] at e
          by_cases c4 : 0 < k
          · rw [if_pos c4] at e; cases e; exact ⟨by omega, snoc a2, by rw [List.length_append]; simp; omega⟩
          · rw [if_neg c4] at e; cases e; exact ⟨by omega, snoc tailL, by rw [List.length_append, List.length_drop]; simp; omega⟩
        · rw [if_neg c3] at e
          by_cases c4 : m = 1
          · rw [if_pos c4] at e; cases e; exact ⟨a1, a2, a3⟩
          · rw [if_neg c4] at e; cases e
theorem rafters_ok {cap m c : Nat} {R : List Row} (h1 : 1 ≤ cap) (hc : isStep c) (h : okRows cap R) : okRows cap (R.map (rafter cap m c)) := by
  refine ⟨by rw [List.length_map]; exact h.1, fun i r e => ?_⟩
  rw [List.getElem?_map] at e
  cases q : R[i]? with
  | none => rw [q] at e; cases e
  | some o => rw [q] at e; cases e; exact rafter_ok h1 hc (h.2 i o q)
theorem foldRows_ok {cap m : Nat} (h1 : 1 ≤ cap) : ∀ (z : List Nat) (R : List Row), (∀ c ∈ z, isStep c) → okRows cap R → okRows cap (z.foldl (fun R c => R.map (rafter cap m c)) R)
  | [], R, _, h => h
  | c :: z, R, hz, h => foldRows_ok h1 z _ (fun x hx => hz x (List.mem_cons_of_mem _ hx)) (rafters_ok h1 (hz c (List.mem_cons_self ..)) h)
theorem wordRows_ok {cap m : Nat} {z : List Nat} (h1 : 1 ≤ cap) (hz : ∀ c ∈ z, isStep c) : okRows cap (wordRows cap m z) := foldRows_ok h1 z _ hz (idRows_ok cap)
theorem S_inj {a b : List Nat} (h : S a = S b) : a = b := by
  have : a.toArray = b.toArray := congrArg Str.cps h
  have := congrArg Array.toList this
  simpa using this
theorem modeS_ne {m : Nat} : (modeS m = ("oldest" : Str)) ↔ m = 0 := by
  match m with
  | 0 => exact ⟨fun _ => rfl, fun _ => rfl⟩
  | 1 => exact ⟨fun h => absurd h (by decide +kernel), fun h => nomatch h⟩
  | n + 2 => exact ⟨fun h => absurd (show ("strict" : Str) = "oldest" from h) (by decide +kernel), fun h => nomatch h⟩
theorem modeS_ne1 {m : Nat} : (modeS m = ("newest" : Str)) ↔ m = 1 := by
  match m with
  | 0 => exact ⟨fun h => absurd h (by decide +kernel), fun h => nomatch h⟩
  | 1 => exact ⟨fun _ => rfl, fun _ => rfl⟩
  | n + 2 => exact ⟨fun h => absurd (show ("strict" : Str) = "newest" from h) (by decide +kernel), fun h => nomatch h⟩
section
variable {P : Program} {w : World} {K : PySem.W.Frag} {mg : Str → Option Value} {base : Heap}
/-! ### row_after -/
def spRowAfter (K : PySem.W.Frag) : Sp := fun vs H Q _ => ∃ (v : V) (r : Row) (n c cap m : Nat), vs = [v, .str (S [c]), .int cap, .str (modeS m)] ∧ Dp K H v (rowD r) ∧ 1 ≤ cap ∧ cap ≤ 100 ∧ okRow n cap r ∧ n ≤ cap ∧ ∀ H' z, Ext H H' → Dp K H' z (rowD (rafter cap m c r)) → Q z H'
theorem scRowAfter : FnScope ["row", "step", "capacity", "mode", "kept", "word", "length"] ["row", "step", "capacity", "mode"] (defScope sRowAfter) := ⟨rfl, rfl, rfl, by decide +kernel, rfl, by decide +kernel, by decide +kernel⟩
theorem ok_rowAfter (F : Df K mg "row_after" sRowAfter) (B : Nb mg) {tk : Tok} (mT : mg "TAKE" = some (.str (S [45]) tk)) : FnOk P w K mg base CX0 1 F.f F.fd ["row", "step", "capacity", "mode"] (spRowAfter K) := by
  refine F.F.ok scRowAfter (fun vs H Q E h => ?_) (fun cdv A outer s H vs Q E hr h => ?_)
  · obtain ⟨v, r, n, c, cap, m, rfl, _⟩ := h
    rfl
  · obtain ⟨v, r, n, c, cap, m, rfl, hd, h1, h2, o, hn, k⟩ := h
    refine ⟨_, pss_cons (ps_if (pt_cmpR op_isN (pv 0) pe_non (nomark _)) (pss_one (ps_ret pe_non)) pss_nil)
      (pss_cons (ps_asg (pv 0) (pg_tup (by rfl) (pgs_cons (pg_name (i := 4) scRowAfter.nd rfl (.inl rfl)) (pgs_cons (pg_name (i := 5) scRowAfter.nd rfl (.inl rfl)) pgs_nil))))
      (pss_cons (ps_set (i := 6) scRowAfter.nd rfl (Or.inl rfl) (pe_op op_add (pv 4) (q_lenS (pv 5) B)))
      (pss_cons (ps_if (pt_cmpR op_eq (pv 1) (pe_glob (v := .str (S [45])) (by rfl) mT ⟨_, rfl⟩) (nomark _))
        (pss_cons (ps_if (pt_cmpR op_eq (pv 6) pe_int (nomark _)) (pss_one (ps_ret pe_non)) pss_nil)
          (pss_one (ps_ret (pe_ifExp (pt_cmpR op_gt (pv 4) pe_int (nomark _)) (pe_tup (pa_cons (pe_op op_sub (pv 4) pe_int) (pa_cons (pv 5) pa_nil))) (pe_tup (pa_cons pe_int (pa_cons (pe_slice sl_tailS (pv 5) (po_some pe_int) po_none) pa_nil))))))) pss_nil)
      (pss_cons (ps_if (pt_cmpR op_lt (pv 6) (pv 2) (nomark _)) (pss_one (ps_ret (pe_tup (pa_cons (pv 4) (pa_cons (pe_op op_addS (pv 5) (pv 1)) pa_nil))))) pss_nil)
      (pss_cons (ps_if (pt_cmpR op_eq (pv 3) pe_str (nomark _))
        (pss_one (ps_ret (pe_ifExp (pt_cmpR op_gt (pv 4) pe_int (nomark _)) (pe_tup (pa_cons (pe_op op_sub (pv 4) pe_int) (pa_cons (pe_op op_addS (pv 5) (pv 1)) pa_nil)))
          (pe_tup (pa_cons pe_int (pa_cons (pe_op op_addS (pe_slice sl_tailS (pv 5) (po_some pe_int) po_none) (pv 1)) pa_nil)))))) pss_nil)
      (pss_one (ps_ret (pe_ifExp (pt_cmpR op_eq (pv 3) pe_str (nomark _)) (pv 0) pe_non)))))))), ?_⟩
    rcases row_inv hd with ⟨rfl, rfl⟩ | ⟨j, z, t, rfl, rfl, hs⟩
    · exact ⟨_, rfl, rfl, _, rfl, iteT (k _ _ Ext.rfl' .non)⟩
    obtain ⟨a1, a2, a3⟩ := o j z rfl
    have two : 2 ≤ sizeLine := by rw [sizeLine_eq]; decide
    have mk : ∀ (x : Int) (k' : Nat) (u : List Nat), rafter cap m c (some (j, z)) = some (k', u) → x = (k' : Int) → ∀ p, H p = none → Q (.ref p) (upd H p (.tup [.int x, .str (S u)])) := fun x k' u e e2 p hp => by
      refine k _ _ (Ext.upd hp) ?_
      rw [e, e2]
      exact row_mk (SqT.of upd_same)
    refine ⟨_, rfl, rfl, _, rfl, iteF ?_⟩
    refine ⟨_, rfl, t, _, rfl, hs, rfl, _, _, rfl, _, _, rfl, rfl, ?_⟩
    refine ⟨_, rfl, _, rfl, z, rfl, by omega, _, _, rfl, rfl, ?_⟩
    refine ⟨_, rfl, rfl, _, rfl, ?_⟩
    by_cases c1 : c = 45
    · subst c1
      rw [decide_eq_true rfl]
      refine iteT ⟨_, rfl, rfl, _, rfl, ?_⟩
      by_cases c2 : j + z.length = 0
      · rw [decide_eq_true (by show V.int ((j : Int) + (z.length : Int)) = V.int 0; exact congrArg V.int (by omega))]
        refine iteT (k _ _ Ext.rfl' ?_)
        simp only [rafter, if_pos, if_pos c2]
        exact .non
      · rw [decide_eq_false (by show ¬ V.int ((j : Int) + (z.length : Int)) = V.int 0; exact fun e => c2 (by have := V.int.inj e; omega))]
        refine iteF ⟨_, rfl, _, _, rfl, rfl, _, rfl, ?_⟩
        by_cases c3 : 0 < j
        · rw [decide_eq_true (show (0 : Int) < (j : Int) by omega)]
          refine iteT ⟨_, rfl, _, _, rfl, rfl, _, rfl, two, mk _ (j - 1) z ?_ (by omega)⟩
          simp only [rafter, if_pos, if_neg c2, if_pos c3]
        · rw [decide_eq_false (show ¬ (0 : Int) < (j : Int) by omega)]
          refine iteF ⟨_, rfl, _, rfl, z, 1, rfl, rfl, rfl, by omega, by omega, two, mk _ 0 (z.drop 1) ?_ rfl⟩
          simp only [rafter, if_pos, if_neg c2, if_neg c3]
    · rw [decide_eq_false (by intro e; have := S_inj (V.str.inj e); simp at this; exact c1 this)]
      refine iteF ⟨_, rfl, _, rfl, _, _, rfl, rfl, _, rfl, ?_⟩
      by_cases c2 : j + z.length < cap
      · rw [decide_eq_true (show (j : Int) + (z.length : Int) < (cap : Int) by omega)]
        refine iteT ⟨_, rfl, _, rfl, _, rfl, _, _, rfl, rfl, (by show z.length + 1 ≤ 100000; omega), two, mk _ j (z ++ [c]) ?_ rfl⟩
        simp only [rafter, if_neg c1, if_pos c2]
      · rw [decide_eq_false (show ¬ (j : Int) + (z.length : Int) < (cap : Int) by omega)]
        refine iteF ⟨_, rfl, rfl, _, rfl, ?_⟩
        by_cases c3 : m = 0
        · rw [decide_eq_true (congrArg V.str (modeS_ne.mpr c3))]
          refine iteT ⟨_, rfl, _, _, rfl, rfl, _, rfl, ?_⟩
          by_cases c4 : 0 < j
          · rw [decide_eq_true (show (0 : Int) < (j : Int) by omega)]
            refine iteT ⟨_, rfl, _, _, rfl, rfl, _, rfl, _, rfl, _, _, rfl, rfl, (by show z.length + 1 ≤ 100000; omega), two, mk _ (j - 1) (z ++ [c]) ?_ (by omega)⟩
            simp only [rafter, if_neg c1, if_neg c2, if_pos c3, if_pos c4]
          · rw [decide_eq_false (show ¬ (0 : Int) < (j : Int) by omega)]
            refine iteF ⟨_, rfl, _, rfl, z, 1, rfl, rfl, rfl, by omega, by omega, _, rfl, _, _, rfl, rfl, (by rw [List.length_drop]; show z.length - 1 + 1 ≤ 100000; omega), two, mk _ 0 (z.drop 1 ++ [c]) ?_ rfl⟩
            simp only [rafter, if_neg c1, if_neg c2, if_pos c3, if_neg c4]
        · rw [decide_eq_false (fun e => c3 (modeS_ne.mp (V.str.inj e)))]
          refine iteF ⟨_, rfl, rfl, _, rfl, ?_⟩
          by_cases c4 : m = 1
          · rw [decide_eq_true (congrArg V.str (modeS_ne1.mpr c4))]
            refine iteT ⟨_, rfl, k _ _ Ext.rfl' ?_⟩
            simp only [rafter, if_neg c1, if_neg c2, if_neg c3, if_pos c4]
            exact hd
          · rw [decide_eq_false (fun e => c4 (modeS_ne1.mp (V.str.inj e)))]
            refine iteF (k _ _ Ext.rfl' ?_)
            simp only [rafter, if_neg c1, if_neg c2, if_neg c3, if_neg c4]
            exact .non
/-! ### rows_of one word -/
def spRowsOf (K : PySem.W.Frag) : Sp := fun vs H Q _ => ∃ (a : Addr) (z : List Nat) (cap m : Nat), vs = [.ref a, .int cap, .str (modeS m)] ∧ H a = some (.lst [.str (S z)]) ∧ z.length ≤ 1000 ∧ (∀ c ∈ z, isStep c) ∧ 1 ≤ cap ∧ cap ≤ 100 ∧ ∀ H' v, Ext H H' → Dp K H' v (rowsD (wordRows cap m z)) → Q v H'
theorem scRowsOf : FnScope ["items", "capacity", "mode", "rows", "item", "step", "row"] ["items", "capacity", "mode"] (defScope sRowsOf) := ⟨rfl, rfl, rfl, by decide +kernel, rfl, by decide +kernel, by decide +kernel⟩
theorem bRowAfter (F : Df K mg "row_after" sRowAfter) : Binds K F.fd ["row", "step", "capacity", "mode"] [] := F.F.binds (ps := ["row", "step", "capacity", "mode"]) fun _ _ _ _ _ _ us hl => match us, hl with | [_, _, _, _], _ => rfl
theorem ok_rowsOf (F : Df K mg "rows_of" sRowsOf) (B : Nb mg) (FI : Df K mg "identity_rows" sIdRows) (GI : FnOk P w K mg base CX0 1 FI.f FI.fd ["capacity"] (spIdRows K)) (FA : Df K mg "row_after" sRowAfter) (GA : FnOk P w K mg base CX0 1 FA.f FA.fd ["row", "step", "capacity", "mode"] (spRowAfter K)) :
    FnOk P w K mg base CX0 2 F.f F.fd ["items", "capacity", "mode"] (spRowsOf K) := by
  refine F.F.ok scRowsOf (fun vs H Q E h => ?_) (fun cdv A outer s H vs Q E hr h => ?_)
  · obtain ⟨a, z, cap, m, rfl, _⟩ := h
    rfl
  · obtain ⟨a, z, cap, m, rfl, hA, hz, hall, h1, h2, k⟩ := h
    refine ⟨_, pss_cons (ps_set (i := 3) scRowsOf.nd rfl (Or.inl rfl) (pe_call GI hr (by rfl) FI.m FI.F.kp (bIdRows FI) .nil pass0 (pa_cons (pv 1) pa_nil)))
      (pss_cons (ps_for PassesOwn.never rfl (pi_list (pv 0)) (pg_name (i := 4) scRowsOf.nd rfl (Or.inl rfl))
        (pss_one (ps_if (pt_val (q_isi (pv 4) (q_Tstr B) B))
          (pss_one (ps_for PassesOwn.never rfl (pi_str (pv 4)) (pg_name (i := 5) scRowsOf.nd rfl (Or.inr rfl))
            (pss_one (ps_set (i := 3) scRowsOf.nd rfl (Or.inl rfl) (q_tup (pe_lc (own := [("row", 6)]) (g := gName 6) (tt := tYes) rfl scRowsOf.nd (pi_tup (pv 3)) (blkOk_by (N := ["items", "capacity", "mode", "rows", "item", "step", "row"]) (sc := defScope sRowsOf) (by decide +kernel))
              (fun _ _ _ _ _ => pg_name (i := 6) scRowsOf.nd rfl (Or.inl rfl)) (fun _ _ _ _ _ => pts_nil) (fun _ _ _ _ _ => pe_call GA hr (by rfl) FA.m FA.F.kp (bRowAfter FA) .nil pass0 (pa_cons (pv 6) (pa_cons (pv 5) (pa_cons (pv 1) (pa_cons (pv 2) pa_nil)))))) B)))))
          (pss_one ps_never))))
      (pss_one (ps_ret (pv 3)))), ?_⟩
    refine ⟨_, rfl, cap, rfl, h2, fun H0 v0 e0 d0 => ?_⟩
    refine ⟨_, rfl, a, rfl, ⟨_, SqL.of (e0 _ _ hA)⟩, for_list (K := K) (a := a) (xs := [.str (S z)]) (fun i σ H2 => Ext H H2 ∧ ((i = 0 ∧ σ = [some (.ref a), some (.int cap), some (.str (modeS m)), some v0, none, none, none] ∧ Dp K H2 v0 (rowsD (idRows cap))) ∨
      (i = 1 ∧ ∃ v x y u, σ = [some (.ref a), some (.int cap), some (.str (modeS m)), some v, x, y, u] ∧ Dp K H2 v (rowsD (wordRows cap m z)))))
      ⟨e0, .inl ⟨rfl, rfl, d0⟩⟩ (fun i σ H2 _ q => SqL.of (q.1 _ _ hA)) ?_ ?_⟩
    · rintro i y σ H2 hi ⟨e2, ⟨rfl, rfl, dv⟩ | ⟨rfl, _⟩⟩
      rotate_left
      · simp at hi
      simp only [List.getElem?_cons_zero, Option.some.injEq] at hi
      subst hi
      refine ⟨_, rfl, _, _, _, _, true, rfl, .ty _, .base (.str _), kit_ty (by decide +kernel), true, rfl, iteT ?_⟩
      refine ⟨_, rfl, _, rfl, for_it (walk_str (z := S z)) (fun i σ H3 => Ext H H3 ∧ ∃ v y u, σ = [some (.ref a), some (.int cap), some (.str (modeS m)), some v, some (.str (S z)), y, u] ∧ Dp K H3 v (rowsD ((z.take i).foldl (fun R c => R.map (rafter cap m c)) (idRows cap))))
        ⟨e2, v0, _, _, rfl, dv⟩ (fun _ _ _ _ _ => True.intro) ?_ ?_⟩
      · rintro i x σ H3 H4 hi ⟨e3, v, y, u, rfl, dR⟩ ⟨rfl, c, hc, rfl⟩
        have hc' : z[i]? = some c := by
          have : z.toArray[i]? = some c := hc
          rw [List.getElem?_toArray] at this
          exact this
        have oR : okRows cap ((z.take i).foldl (fun R c => R.map (rafter cap m c)) (idRows cap)) := foldRows_ok h1 _ _ (fun x hx => hall x (List.mem_of_mem_take hx)) (idRows_ok cap)
        have step : (z.take (i + 1)).foldl (fun R c => R.map (rafter cap m c)) (idRows cap) = ((z.take i).foldl (fun R c => R.map (rafter cap m c)) (idRows cap)).map (rafter cap m c) := by
          rw [List.take_add_one, hc', List.foldl_append]
          rfl
        rw [step]
        generalize ((z.take i).foldl (fun R c => R.map (rafter cap m c)) (idRows cap)) = R at dR oR
        obtain ⟨t, xs, rfl, hs, ha⟩ := rows_inv dR
        have hl := dpAll_len ha
        rw [List.length_map, oR.1] at hl
        refine ⟨_, rfl, t, rfl, ⟨_, hs⟩, fun D hD => ?_⟩
        refine lc_pure walk_tup hD (by omega) (fun H' e => hs.ext e) (fun j v H => ∀ r, R[j]? = some r → Dp K H v (rowD (rafter cap m c r))) (fun i H x H' y => y.1 ▸ Ext.rfl')
          (fun i v H H' acc e1 e2 h r er => dp_extL e1 e2 _ _ (tupy_row _) (h r er)) ?_ ?_ (fun h q => h _ _ q) (fun h q => h _ _ q)
        · rintro j x H5 H6 hj e ⟨rfl, hx⟩ RR hRR
          obtain ⟨r, er, dr⟩ := rows_at' (dpAll_ext' e ha) hx
          refine ⟨rfl, iteT (B := False) ?_⟩
          refine ⟨_, rfl, _, rfl, _, rfl, _, rfl, x, r, j, c, cap, m, rfl, dr, h1, h2, oR.2 j r er, by omega, fun H' q e' dz => hRR q H' e' fun r' er' => ?_⟩
          rw [er] at er'; cases er'
          exact dz
        · intro ys H' hl' hy hR e
          refine ⟨D, ys, rfl, .inl ⟨SqL.of hy, fun l hl2 => ?_⟩⟩
          refine ⟨(e3.trans e).trans (Ext.upd hl2), _, _, _, rfl, .tup (SqT.of upd_same) (dpAll_ext' (Ext.upd hl2) (dpAll_of ?_ fun i y d ey ed => ?_))⟩
          · rw [List.length_map, List.length_map, oR.1]; omega
          · rw [List.getElem?_map, List.getElem?_map] at ed
            cases q : R[i]? with
            | none => rw [q] at ed; cases ed
            | some r =>
              rw [q] at ed; cases ed
              exact hR i y ey r q
      · rintro σ H3 ⟨e3, v, y, u, rfl, dR⟩
        refine ⟨e3, .inr ⟨rfl, v, _, _, _, rfl, ?_⟩⟩
        have : (S z).cps.size = z.length := List.size_toArray ..
        rw [this, List.take_length] at dR
        exact dR
    · rintro σ H2 ⟨e2, ⟨hz, _⟩ | ⟨_, v, x, y, u, rfl, d⟩⟩
      · cases hz
      · exact ⟨_, rfl, k _ _ e2 d⟩
end
end K30
set_option maxHeartbeats 4000000
namespace K30
open PySem L2
section
variable {P : Program} {w : World} {K : PySem.W.Frag} {mg : Str → Option Value} {base : Heap}
/-! ### is_mode, check_mode -/
structure Md (K : PySem.W.Frag) (mg : Str → Option Value) : Prop where
  m : ∃ a, mg "MODES" = some (.ref a) ∧ ∀ H, SqT K H a [.str (modeS 0), .str (modeS 1), .str (modeS 2)]
def spIsMode : Sp := fun vs H Q _ => ∃ m, vs = [.str (modeS m)] ∧ m < 3 ∧ Q (.bl true) H
theorem scIsMode : FnScope ["value"] ["value"] (defScope sIsMode) := ⟨rfl, rfl, rfl, by decide +kernel, rfl, by decide +kernel, by decide +kernel⟩
theorem modes_in : ∀ m, m < 3 → inV (.str (modeS m)) [.str (modeS 0), .str (modeS 1), .str (modeS 2)] = true := by
  intro m hm
  match m, hm with
  | 0, _ => decide +kernel
  | 1, _ => decide +kernel
  | 2, _ => decide +kernel
theorem ok_isMode (F : Df K mg "is_mode" sIsMode) (B : Nb mg) (N : Md K mg) : FnOk P w K mg base CX0 1 F.f F.fd ["value"] spIsMode := by
  obtain ⟨a, mM, hM⟩ := N.m
  refine F.F.ok scIsMode (fun vs H Q E h => ?_) (fun cdv A outer s H vs Q E hr h => ?_)
  · obtain ⟨m, rfl, _⟩ := h
    rfl
  · obtain ⟨m, rfl, hm, k⟩ := h
    refine ⟨_, pss_one (ps_ret (pe_and (q_isi (pv 0) (q_Tstr B) B) (pe_one (pe_cmpR op_in_seq (pv 0) (pe_glob (v := .ref a) (by rfl) mM rfl) (by rfl))))), ?_⟩
    refine ⟨_, rfl, _, _, _, _, true, rfl, .ty _, .base (.str _), kit_ty (by decide +kernel), true, rfl, iteT ⟨_, rfl, a, _, rfl, .inr (hM H), rfl, rfl, ?_⟩⟩
    show Q (.bl (inV (.str (modeS m)) [.str (modeS 0), .str (modeS 1), .str (modeS 2)])) H
    rw [modes_in m hm]
    exact k
def spChkMode : Sp := fun vs H Q _ => ∃ m, vs = [.str (modeS m)] ∧ m < 3 ∧ Q .non H
theorem scChkMode : FnScope ["value"] ["value"] (defScope sChkMode) := ⟨rfl, rfl, rfl, by decide +kernel, rfl, by decide +kernel, by decide +kernel⟩
theorem bIsMode (F : Df K mg "is_mode" sIsMode) : Binds K F.fd ["value"] [] := F.F.binds (ps := ["value"]) fun _ _ _ _ _ _ us hl => match us, hl with | [_], _ => rfl
theorem ok_chkMode (F : Df K mg "check_mode" sChkMode) (FI : Df K mg "is_mode" sIsMode) (GI : FnOk P w K mg base CX0 1 FI.f FI.fd ["value"] spIsMode) : FnOk P w K mg base CX0 2 F.f F.fd ["value"] spChkMode := by
  refine F.F.ok scChkMode (fun vs H Q E h => ?_) (fun cdv A outer s H vs Q E hr h => ?_)
  · obtain ⟨m, rfl, _⟩ := h
    rfl
  · obtain ⟨m, rfl, hm, k⟩ := h
    refine ⟨_, pss_one (ps_if (pt_not (pt_val (pe_call GI hr (by rfl) FI.m FI.F.kp (bIsMode FI) .nil pass0 (pa_cons (pv 0) pa_nil)))) (pss_one ps_never) pss_nil), ?_⟩
    exact ⟨_, rfl, m, rfl, hm, true, rfl, iteF k⟩
/-! ### effect_of one word -/
def spEffOf (K : PySem.W.Frag) (C : Addr) : Sp := fun vs H Q _ => ∃ (z : List Nat) (cap m : Nat), vs = [.str (S z), .int cap, .str (modeS m)] ∧ z ≠ [] ∧ z.length ≤ 1000 ∧ (∀ c ∈ z, isStep c) ∧ m < 3 ∧ 1 ≤ cap ∧ cap ≤ 100 ∧ ∀ H' p, Ext H H' → EfAt K C H' p (wordRows cap m z) → Q (.ref p) H'
theorem scEffOf : FnScope ["program", "capacity", "mode", "items"] ["program", "capacity", "mode"] (defScope sEffOf) := ⟨rfl, rfl, rfl, by decide +kernel, rfl, by decide +kernel, by decide +kernel⟩
theorem bItems (F : Df K mg "items_of" sItems) : Binds K F.fd ["program"] [] := F.F.binds (ps := ["program"]) fun _ _ _ _ _ _ us hl => match us, hl with | [_], _ => rfl
theorem bChkMode (F : Df K mg "check_mode" sChkMode) : Binds K F.fd ["value"] [] := F.F.binds (ps := ["value"]) fun _ _ _ _ _ _ us hl => match us, hl with | [_], _ => rfl
theorem bRowsOf (F : Df K mg "rows_of" sRowsOf) : Binds K F.fd ["items", "capacity", "mode"] [] := F.F.binds (ps := ["items", "capacity", "mode"]) fun _ _ _ _ _ _ us hl => match us, hl with | [_, _, _], _ => rfl
theorem ok_effOf (F : Df K mg "effect_of" sEffOf) (T : EfC K mg) (GI : FnOk P w K mg base CX0 6 T.fI.f T.fI.fd ["self", "capacity", "rows"] (spInit K T.C)) (F1 : Df K mg "items_of" sItems) (G1 : FnOk P w K mg base CX0 3 F1.f F1.fd ["program"] spParse) (F2 : Df K mg "check_capacity" sChkCap) (G2 : FnOk P w K mg base CX0 3 F2.f F2.fd ["value"] spChkCap)
    (F3 : Df K mg "check_mode" sChkMode) (G3 : FnOk P w K mg base CX0 2 F3.f F3.fd ["value"] spChkMode) (F4 : Df K mg "rows_of" sRowsOf) (G4 : FnOk P w K mg base CX0 2 F4.f F4.fd ["items", "capacity", "mode"] (spRowsOf K)) : FnOk P w K mg base CX0 8 F.f F.fd ["program", "capacity", "mode"] (spEffOf K T.C) := by
  refine F.F.ok scEffOf (fun vs H Q E h => ?_) (fun cdv A outer s H vs Q E hr h => ?_)
  · obtain ⟨z, cap, m, rfl, _⟩ := h
    rfl
  · obtain ⟨z, cap, m, rfl, hne, hz, hall, hm, h1, h2, k⟩ := h
    refine ⟨_, pss_cons (ps_set (i := 3) scEffOf.nd rfl (Or.inl rfl) (pe_call G1 (hr.mono (by decide)) (by rfl) F1.m F1.F.kp (bItems F1) .nil pass0 (pa_cons (pv 0) pa_nil)))
      (pss_cons (ps_expr (pe_call G2 (hr.mono (by decide)) (by rfl) F2.m F2.F.kp (bChkCap F2) .nil pass0 (pa_cons (pv 1) pa_nil)))
      (pss_cons (ps_expr (pe_call G3 (hr.mono (by decide)) (by rfl) F3.m F3.F.kp (bChkMode F3) .nil pass0 (pa_cons (pv 2) pa_nil)))
      (pss_one (ps_ret (pe_make T.M GI hr (by rfl) T.m (bInit T) .nil pass0 (pa_cons (pv 1) (pa_cons (pe_call G4 (hr.mono (by decide)) (by rfl) F4.m F4.F.kp (bRowsOf F4) .nil pass0 (pa_cons (pv 3) (pa_cons (pv 1) (pa_cons (pv 2) pa_nil)))) pa_nil))))))), ?_⟩
    refine ⟨_, rfl, z, rfl, hne, hz, hall, fun H1 l e1 hl => ?_⟩
    refine ⟨_, rfl, (cap : Int), rfl, by omega, by omega, _, rfl, m, rfl, hm, _, rfl, _, rfl, _, rfl, _, rfl, l, z, cap, m, rfl, hl, hz, hall, h1, h2, fun H2 v e2 d => ?_⟩
    obtain ⟨t, xs, rfl, hs, ha⟩ := rows_inv d
    exact make_ef (.inl hs) ha h1 h2 (wordRows_ok h1 hall) fun H3 p e3 q => k H3 p ((e1.trans e2).trans e3) q
end
end K30
set_option maxHeartbeats 4000000
namespace K30
open PySem L2
/-! ### what is handed to generated -/
abbrev Item := Sum (Nat × List Row) Int
def ItemAt (K : PySem.W.Frag) (C : Addr) (H : Hp) (v : V) : Item → Prop
  | .inl (c, R) => ∃ a, v = .ref a ∧ EfAt K C H a R ∧ okRows c R ∧ 1 ≤ c ∧ c ≤ 100
  | .inr i => v = .int i
def capI : Item → Nat
  | .inl (c, _) => c
  | .inr _ => 0
def isEf : Item → Bool
  | .inl _ => true
  | .inr _ => false
def firstInt : List Item → Nat → Option Nat
  | [], _ => none
  | it :: l, i => if isEf it then firstInt l (i + 1) else some i
def firstCap (c : Nat) : List Item → Option Nat
  | [] => none
  | it :: l => if c = capI it then firstCap c l else some (capI it)
inductive Chk where
  | bad (p : Option Nat)
  | cap (c d : Nat)
  | ok
def checkE (its : List Item) : Chk := match its with
  | [] => .bad none
  | it :: l => match firstInt (it :: l) 0 with
    | some p => .bad (some p)
    | none => match firstCap (capI it) (it :: l) with
      | some d => .cap (capI it) d
      | none => .ok
def optV : Option Nat → V
  | none => .non
  | some n => .int n
inductive ItemsAt (K : PySem.W.Frag) (C : Addr) (H : Hp) : List V → List Item → Prop
  | nil : ItemsAt K C H [] []
  | cons {v : V} {it : Item} {vs : List V} {its : List Item} : ItemAt K C H v it → ItemsAt K C H vs its → ItemsAt K C H (v :: vs) (it :: its)
theorem ItemAt.ext {K : PySem.W.Frag} {C : Addr} {H H' : Hp} (e : Ext H H') {v : V} : ∀ {it : Item}, ItemAt K C H v it → ItemAt K C H' v it
  | .inl (c, R), ⟨a, h1, h2, h3⟩ => ⟨a, h1, h2.ext e, h3⟩
  | .inr _, h => h
theorem ItemsAt.ext {K : PySem.W.Frag} {C : Addr} {H H' : Hp} (e : Ext H H') {vs : List V} {its : List Item} (h : ItemsAt K C H vs its) : ItemsAt K C H' vs its := by
  induction h with
  | nil => exact .nil
  | cons h _ ih => exact .cons (h.ext e) ih
theorem ItemsAt.len {K : PySem.W.Frag} {C : Addr} {H : Hp} {vs : List V} {its : List Item} (h : ItemsAt K C H vs its) : vs.length = its.length := by
  induction h with
  | nil => rfl
  | cons _ _ ih => exact congrArg Nat.succ ih
theorem ItemsAt.at {K : PySem.W.Frag} {C : Addr} {H : Hp} {vs : List V} {its : List Item} (h : ItemsAt K C H vs its) : ∀ {i : Nat} {v : V}, vs[i]? = some v → ∃ it, its[i]? = some it ∧ ItemAt K C H v it := by
  induction h with
  | nil => intro i v e; simp at e
  | @cons v it vs its h _ ih =>
    intro i u e
    cases i with
    | zero => cases e; exact ⟨it, rfl, h⟩
    | succ i => exact ih e
theorem firstInt_go : ∀ {its : List Item} {i j : Nat}, (∀ k it, k < i → its[k]? = some it → isEf it = true) → firstInt its j = firstInt (its.drop i) (j + i)
  | its, 0, j, _ => rfl
  | [], i + 1, j, _ => by simp [firstInt]
  | it :: l, i + 1, j, h => by
    have h0 := h 0 it (by omega) rfl
    rw [firstInt, if_pos h0, firstInt_go (i := i) fun k x hk e => h (k + 1) x (by omega) e, List.drop_succ_cons, Nat.add_assoc, Nat.add_comm 1 i]
theorem firstCap_go {c : Nat} : ∀ {its : List Item} {i : Nat}, (∀ k it, k < i → its[k]? = some it → c = capI it) → firstCap c its = firstCap c (its.drop i)
  | its, 0, _ => rfl
  | [], i + 1, _ => by simp
  | it :: l, i + 1, h => by
    have h0 := h 0 it (by omega) rfl
    rw [firstCap, if_pos h0, firstCap_go (i := i) fun k x hk e => h (k + 1) x (by omega) e, List.drop_succ_cons]
theorem drop_at {α : Type} {l : List α} {i : Nat} {x : α} (h : l[i]? = some x) : l.drop i = x :: l.drop (i + 1) := by
  obtain ⟨hi, e⟩ := List.getElem?_eq_some_iff.mp h
  rw [List.drop_eq_getElem_cons hi, e]
section
variable {P : Program} {w : World} {K : PySem.W.Frag} {mg : Str → Option Value} {base : Heap}
/-! ### check_integer -/
/-- an own exception class without __init__ -/
structure ExN (K : PySem.W.Frag) (mg : Str → Option Value) (x : Str) where
  C : Addr
  m : mg x = some (.ref C)
  xP : PySem.W.excIn K C [.type "ValueError", .type "Exception", .type "BaseException", .type "object"] "ValueError.__new__" = true
  kP : PySem.W.keepIn K (.ref C) = true
  bP : PySem.W.subIn K (.ref C) (.type "BaseException") = some true
  tP : PySem.W.typeIn K (.ref C) = some (.type "type")
def spChkInt (Ci : Addr) : Sp := fun vs H Q E => ∃ v l g : Int, vs = [.int v, .int l, .int g] ∧ ((l ≤ v ∧ v ≤ g) → Q .non H) ∧ (¬ (l ≤ v ∧ v ≤ g) → E (.ref Ci) none H)
theorem scChkInt : FnScope ["value", "least", "greatest"] ["value", "least", "greatest"] (defScope sChkInt) := ⟨rfl, rfl, rfl, by decide +kernel, rfl, by decide +kernel, by decide +kernel⟩
theorem ok_chkInt (F : DfD K mg "check_integer" sChkInt [.int 0, .non]) (FI : DfD K mg "is_integer" sIsInt [.int 0]) (GI : FnOk P w K mg base CX0 1 FI.f FI.fd ["value", "least"] spIsInt) (X : ExN K mg "InvalidInteger") :
    FnOk P w K mg base (L2.CX P w) 2 F.f F.fd ["value", "least", "greatest"] (spChkInt X.C) := by
  refine F.F.ok scChkInt (fun vs H Q E h => ?_) (fun cdv A outer s H vs Q E hr h => ?_)
  · obtain ⟨v, l, g, rfl, _⟩ := h
    rfl
  · obtain ⟨v, l, g, rfl, k1, k2⟩ := h
    refine ⟨_, pss_one (ps_if (PW.pt (pw_or (pt_not (pt_val (pe_call GI hr (by rfl) FI.m FI.F.kp (bIsInt2 FI) .nil pass0 (pa_cons (pv 0) (pa_cons (pv 1) pa_nil))))) (pw_or1 (PW.pt (pw_and (pt_cmpR op_notN (pv 2) pe_non (nomark _)) (pw_and1 (pt_cmpR op_gt (pv 0) (pv 2) (nomark _))))))))
      (pss_one (ps_raise rfl (takes_of rfl rfl rfl rfl) (pmk_own PySem.F.excBase_ValueError X.xP X.m X.kP (raises_own X.bP X.tP) rfl))) pss_nil), ?_⟩
    refine ⟨_, rfl, _, rfl, v, l, rfl, _, rfl, ?_⟩
    by_cases c1 : l ≤ v
    · rw [decide_eq_true c1]
      refine iteF ⟨_, rfl, rfl, true, rfl, iteT ⟨_, rfl, _, rfl, _, _, rfl, rfl, _, rfl, ?_⟩⟩
      by_cases c2 : g < v
      · rw [decide_eq_true c2]
        exact iteT (k2 (by omega))
      · rw [decide_eq_false c2]
        exact iteF (k1 (by omega))
    · rw [decide_eq_false c1]
      exact iteT (iteT (k2 (by omega)))
/-! ### check_effects -/
def spChkE (K : PySem.W.Frag) (C Ci Cm : Addr) : Sp := fun vs H Q E => ∃ (t : Addr) (xs : List V) (its : List Item), vs = [.ref t] ∧ SqT K H t xs ∧ ItemsAt K C H xs its ∧
  match checkE its with
  | .bad p => ∀ d H', ExD H H' d [("position", optV p)] → E (.ref Ci) (some d) H'
  | .cap c d => ∀ e H', ExD H H' e [("second", .int d), ("first", .int c)] → E (.ref Cm) (some e) H'
  | .ok => ∀ H', Ext H H' → Q .non H'
theorem exD_ext {H H1 H' : Hp} {d : Addr} {fs : List (Str × V)} (e : Ext H H1) (h : ExD H1 H' d fs) : ExD H H' d fs := by
  refine ⟨e.trans h.1, ?_, h.2.2⟩
  cases q : H d with
  | none => rfl
  | some o =>
    have z := e _ _ q
    rw [h.2.1] at z
    cases z
theorem scChkE : FnScope ["effects", "position", "effect"] ["effects"] (defScope sChkE) := ⟨rfl, rfl, rfl, by decide +kernel, rfl, by decide +kernel, by decide +kernel⟩
theorem ok_chkE (F : Df K mg "check_effects" sChkE) (T : EfC K mg) (B : Nb mg) (XI : xInvE K mg) (n1 : PySem.W.findIn K (.ref XI.C) "position" = some none) (FS : Df K mg "check_same" sSame) {Cm : Addr} (GS : FnOk P w K mg base (L2.CX P w) 3 FS.f FS.fd ["first", "second"] (spSame K T.C Cm))
    (kI : PySem.W.kitOne K (.type "int") (.ref T.C) = some false) : FnOk P w K mg base (L2.CX P w) 4 F.f F.fd ["effects"] (spChkE K T.C XI.C Cm) := by
  refine F.F.okX scChkE (fun vs H Q E h => ?_) (fun cdv A outer s H vs Q E hr h => ?_)
  · obtain ⟨t, xs, its, rfl, _⟩ := h
    rfl
  · obtain ⟨t, xs, its, rfl, hs, hI, k⟩ := h
    refine ⟨_, pss_cons (ps_if (pt_cmpR op_eq (q_len (pv 0) B) pe_int (nomark _)) (pss_one (ps_raise rfl (takes_of rfl rfl rfl rfl) (pmk_oex XI.T XI.iC XI.tI (ok_invEI XI n1) (hr.mono (by decide)) (bInvEI XI) .nil pass0 (by rfl) XI.m (pa_cons pe_non pa_nil)))) pss_nil)
      (pss_cons (ps_for PassesOwn.leaving rfl (pi_enumV (by rfl) B.enumerate (pv 0)) (pg_tup (by rfl) (pgs_cons (pg_name (i := 1) scChkE.nd rfl (.inl rfl)) (pgs_cons (pg_name (i := 2) scChkE.nd rfl (.inl rfl)) pgs_nil)))
        (pss_one (ps_if (pt_not (pt_val (q_isi (pv 2) (pe_glob (v := .ref T.C) (by rfl) T.m rfl) B))) (pss_one (ps_raise rfl (takes_of rfl rfl rfl rfl) (pmk_oex XI.T XI.iC XI.tI (ok_invEI XI n1) (hr.mono (by decide)) (bInvEI XI) .nil pass0 (by rfl) XI.m (pa_cons (pv 1) pa_nil)))) pss_nil)))
      (pss_one (ps_for PassesOwn.leaving rfl (pi_tup (pv 0)) (pg_name (i := 2) scChkE.nd rfl (.inl rfl))
        (pss_one (ps_expr (pe_call GS hr (by rfl) FS.m FS.F.kp (bSame FS) .nil (passes_call (takes_of rfl rfl rfl rfl) fun _ _ _ _ h => h) (pa_cons (pe_ix ix_tup (pv 0) pe_int (fun _ _ => rfl)) (pa_cons (pv 2) pa_nil)))))))), ?_⟩
    have hl := hI.len
    refine ⟨_, rfl, t, xs, rfl, .inr hs, rfl, _, rfl, ?_⟩
    match its, hI, k, hl with
    | [], hI, k, hl =>
      rw [decide_eq_true (by show V.int (xs.length : Int) = V.int 0; rw [hl]; rfl)]
      refine iteT ⟨by show 1 ≤ 1000; decide, fun a ha => ⟨a, _, rfl, upd_same, mk1 ha fun d H' e => k d H' e⟩⟩
    | it0 :: its', hI, k, hl =>
      rw [decide_eq_false (by show ¬ V.int (xs.length : Int) = V.int 0; rw [hl]; exact fun e => by have := V.int.inj e; simp at this; omega)]
      refine iteF ?_
      generalize hits : it0 :: its' = its at hI hl k
      refine ⟨t, xs, rfl, .inl hs, fun J wJ => for_it wJ (fun i σ H' => Ext H H' ∧ (∀ k it, k < i → its[k]? = some it → isEf it = true) ∧ ∃ a b, σ = [some (.ref t), a, b]) ⟨Ext.rfl', fun _ _ h => absurd h (Nat.not_lt_zero _), _, _, rfl⟩ (fun i σ H' _ e => e.1) ?_ ?_⟩
      · rintro i x σ H1 H2 hi ⟨e1, hp, a, b, rfl⟩ ⟨tp, u, v, rfl, ht, rfl, hu, hv⟩
        cases hu
        have e2 := e1.trans (Ext.upd (o := HO.tup [.int (i : Nat), v]) ht)
        obtain ⟨it, eit, dit⟩ := (hI.ext e2).at hv
        refine ⟨tp, _, rfl, SqT.of upd_same, rfl, _, _, rfl, _, _, rfl, rfl, ?_⟩
        match it, eit, dit with
        | .inl (c, R), eit, ⟨a', ea, hE, _⟩ =>
          subst ea
          refine ⟨_, rfl, _, _, _, _, true, rfl, .own _, T.ty hE, kit_own, true, rfl, iteF ⟨e2, fun k it hk e => ?_, _, _, rfl⟩⟩
          by_cases hki : k = i
          · subst hki
            rw [eit] at e; cases e
            rfl
          · exact hp k it (by omega) e
        | .inr z, eit, dit =>
          have dit : v = .int z := dit
          subst dit
          refine ⟨_, rfl, _, _, _, _, false, rfl, .own _, .base (.int z), kI, false, rfl, iteT ⟨_, rfl, (by show 1 ≤ 1000; decide), fun a' ha => ⟨a', _, rfl, upd_same, mk1 ha fun d H' e => ?_⟩⟩⟩
          have hc : checkE its = .bad (some i) := by
            subst hits
            have : firstInt (it0 :: its') 0 = some i := by
              rw [firstInt_go (i := i) hp, drop_at eit, firstInt, Nat.zero_add]
              rfl
            show (match firstInt (it0 :: its') 0 with | some p => Chk.bad (some p) | none => _) = _
            rw [this]
          rw [hc] at k
          exact k d H' (exD_ext e2 e)
      · rintro σ H1 ⟨e1, hp, a, b, rfl⟩
        have hn : firstInt its 0 = none := by
          rw [firstInt_go (i := xs.length) hp, List.drop_eq_nil_of_le (by omega)]
          rfl
        have hx0 : ∃ v0, xs[0]? = some v0 := by
          have : 0 < xs.length := by rw [hl, ← hits]; simp
          exact ⟨_, List.getElem?_eq_getElem this⟩
        obtain ⟨v0, ev0⟩ := hx0
        refine ⟨_, rfl, t, rfl, ⟨xs, hs.ext e1⟩, for_it (walk_tup (xs := xs)) (fun i σ H' => Ext H H' ∧ (∀ k it, k < i → its[k]? = some it → capI it0 = capI it) ∧ ∃ a b, σ = [some (.ref t), a, b]) ⟨e1, fun _ _ h => absurd h (Nat.not_lt_zero _), _, _, rfl⟩ (fun i σ H' _ e => hs.ext e.1) ?_ ?_⟩
        · rintro i x σ H2 H3 hi ⟨e2, hq, a, b, rfl⟩ ⟨rfl, hx⟩
          obtain ⟨it, eit, dit⟩ := (hI.ext e2).at hx
          obtain ⟨it', eit', dit'⟩ := (hI.ext e2).at ev0
          have : it' = it0 := by rw [← hits] at eit'; simpa using eit'.symm
          subst this
          have h1 := hp i it (by omega) eit
          have h0 := hp 0 it' (by omega) eit'
          match it', it, eit, dit, dit', h0, h1, hits, hq with
          | .inl (c0, R0), .inl (c, R), eit, ⟨a, ea, hE, o, _⟩, ⟨a0, ea0, hE0, o0, _⟩, _, _, hits, hq =>
            subst ea ea0
            refine ⟨_, rfl, t, xs, 0, .ref a0, rfl, rfl, hs.ext e2, atI_nat (j := 0) ev0, _, rfl, a0, a, R0, R, c0, c, rfl, hE0, hE, o0.1, o.1, fun hcc => ⟨e2, fun k it hk e => ?_, _, _, rfl⟩, fun hcc d H' ed => ?_⟩
            · by_cases hki : k = i
              · subst hki
                rw [eit] at e; cases e
                exact hcc
              · exact hq k it (by omega) e
            · have hc : checkE its = .cap c0 c := by
                subst hits
                have : firstCap c0 (.inl (c0, R0) :: its') = some c := by
                  refine (firstCap_go (c := c0) (i := i) hq).trans ?_
                  rw [drop_at eit, firstCap]
                  exact if_neg hcc
                show (match firstInt (.inl (c0, R0) :: its') 0 with | some p => Chk.bad (some p) | none => match firstCap (capI (.inl (c0, R0))) (.inl (c0, R0) :: its') with | some d => Chk.cap (capI (.inl (c0, R0))) d | none => Chk.ok) = _
                rw [hn, show capI (.inl (c0, R0)) = c0 from rfl, this]
              rw [hc] at k
              exact k d H' (exD_ext e2 ed)
        · rintro σ H2 ⟨e2, hq, a, b, rfl⟩
          have hc : checkE its = .ok := by
            subst hits
            have : firstCap (capI it0) (it0 :: its') = none := by
              rw [firstCap_go (i := xs.length) hq, List.drop_eq_nil_of_le (by omega)]
              rfl
            show (match firstInt (it0 :: its') 0 with | some p => Chk.bad (some p) | none => match firstCap (capI it0) (it0 :: its') with | some d => Chk.cap (capI it0) d | none => Chk.ok) = _
            rw [hn, this]
          rw [hc] at k
          exact k H2 e2
end
end K30
set_option maxHeartbeats 4000000
namespace K30
open PySem L2
/-! ### the mirror of generated -/
abbrev Pr := List Row × List Nat
def gins (e : Pr) (F : List Pr) (g : List Row × Nat) : List Pr := if jrows e.1 g.1 ∈ F.map (·.1) then F else F ++ [(jrows e.1 g.1, e.2 ++ [g.2])]
def gturn (G : List (List Row)) (e : Pr) (F : List Pr) : List Pr := G.zipIdx.foldl (gins e) F
def gen (G : List (List Row)) (most : Nat) : Nat → Nat → List Pr → Option (List Pr)
  | 0, _, _ => none
  | n + 1, i, F => match F[i]? with
    | none => some F
    | some e => if most < (gturn G e F).length then none else gen G most n (i + 1) (gturn G e F)
def genR (c : Nat) (G : List (List Row)) (most : Nat) : Option (List Pr) := gen G most (most + 2) 0 [(idRows c, [])]
/-! ### keys -/
def rowK : Row → NestedKey
  | none => .none
  | some (k, w) => .tup [.num (k : Int), .text (S w)]
def rowsK (R : List Row) : NestedKey := .tup (R.map rowK)
theorem row_data : ∀ r : Row, (rowK r).data = rowD r
  | none => by simp [rowK, rowD, NestedKey.data]
  | some (k, w) => by simp [rowK, rowD, NestedKey.data, NestedKey.datas]
theorem rowsAll_data : ∀ R : List Row, NestedKey.datas (R.map rowK) = R.map rowD
  | [] => by simp [NestedKey.datas]
  | r :: R => by rw [List.map_cons, List.map_cons, NestedKey.datas, row_data, rowsAll_data R]
theorem rows_data (R : List Row) : (rowsK R).data = rowsD R := by
  unfold rowsK rowsD
  rw [NestedKey.data, rowsAll_data]
theorem rowK_depth : ∀ r : Row, (rowK r).depth ≤ 1
  | none => by simp [rowK, NestedKey.depth]
  | some (k, w) => by simp [rowK, NestedKey.depth, NestedKey.depthAll]
theorem rowsKAll_depth : ∀ R : List Row, NestedKey.depthAll (R.map rowK) ≤ 1
  | [] => by simp [NestedKey.depthAll]
  | r :: R => by
    rw [List.map_cons, NestedKey.depthAll]
    exact Nat.max_le.mpr ⟨rowK_depth r, rowsKAll_depth R⟩
theorem rowsK_depth (R : List Row) : (rowsK R).depth ≤ 2 := by
  unfold rowsK
  rw [NestedKey.depth]
  exact Nat.succ_le_succ (rowsKAll_depth R)
theorem rowK_inj : ∀ {r s : Row}, rowK r = rowK s → r = s
  | none, none, _ => rfl
  | none, some (_, _), h => by simp [rowK] at h
  | some (_, _), none, h => by simp [rowK] at h
  | some (k, w), some (j, v), h => by
    simp only [rowK, NestedKey.tup.injEq, List.cons.injEq, NestedKey.num.injEq, NestedKey.text.injEq, and_true] at h
    have := S_inj h.2
    have h1 : k = j := by omega
    rw [h1, this]
theorem rowsK_inj {A B : List Row} (h : rowsK A = rowsK B) : A = B := by
  have h : A.map rowK = B.map rowK := by unfold rowsK at h; exact NestedKey.tup.inj h
  exact (List.map_inj_right fun _ _ e => rowK_inj e).mp h
theorem mem_rowsK {R : List Row} {l : List (List Row)} : rowsK R ∈ l.map rowsK ↔ R ∈ l := by
  rw [List.mem_map]
  constructor
  · rintro ⟨A, h, e⟩
    rw [← rowsK_inj e]
    exact h
  · intro h
    exact ⟨R, h, rfl⟩
/-! ### the state -/
def prD (e : Pr) : PyData := .tuple [rowsD e.1, idxD e.2]
theorem tupy_pr (e : Pr) : tupy (prD e) = true := by
  show (tupy (rowsD e.1) && (tupy (idxD e.2) && true)) = true
  rw [tupy_rows, tupy_idx]
  rfl
theorem tupy_prs (F : List Pr) : tupyAll (F.map prD) = true := tupyAll_of fun d hd => by
  obtain ⟨e, _, rfl⟩ := List.mem_map.mp hd
  exact tupy_pr e
theorem nt_ext {H : Hp} {p : Addr} {φ : Heap → Prop} (h : H p = some (.ext φ)) : ∀ xs, ¬ Rd H p (.tup xs) := fun xs z => by
  rcases z with z | ⟨o, z⟩ <;> (rw [h] at z; cases z)
theorem nt_lst {H : Hp} {p : Addr} {ys : List V} (h : H p = some (.lst ys)) : ∀ xs, ¬ Rd H p (.tup xs) := fun xs z => by
  rcases z with z | ⟨o, z⟩ <;> (rw [h] at z; cases z)
theorem sqT_extN {K : PySem.W.Frag} {D a : Addr} {H H' : Hp} {xs : List V} (hD : ∀ xs, ¬ Rd H D (.tup xs)) (e : ExtL D H H') (h : SqT K H a xs) : SqT K H' a xs := by
  rcases h with (h | ⟨o, h⟩) | h
  · exact .inl (.inl (e _ _ (fun z => by subst z; exact hD _ (.inl h)) h))
  · exact .inl (.inr ⟨o, e _ _ (fun z => by subst z; exact hD _ (.inr ⟨o, h⟩)) h⟩)
  · exact .inr h
theorem EfAt.extN {K : PySem.W.Frag} {C : Addr} {H H' : Hp} {a D : Addr} {R : List Row} (hD : ∀ xs, ¬ Rd H D (.tup xs)) (hI : ∀ dx fs, H D ≠ some (.ins C dx fs)) (h : EfAt K C H a R) (e : ExtL D H H') : EfAt K C H' a R := by
  obtain ⟨dx, t, h1, h2⟩ := h
  exact ⟨dx, t, e _ _ (fun z => by subst z; exact hI _ _ h1) h1, dp_extN hD e _ _ (tupy_rows R) h2⟩
theorem ItemsAt.extN {K : PySem.W.Frag} {C : Addr} {H H' : Hp} {D : Addr} (hD : ∀ xs, ¬ Rd H D (.tup xs)) (hI : ∀ dx fs, H D ≠ some (.ins C dx fs)) (e : ExtL D H H') {vs : List V} {its : List Item} (h : ItemsAt K C H vs its) : ItemsAt K C H' vs its := by
  induction h with
  | nil => exact .nil
  | @cons v it vs its h _ ih =>
    refine .cons ?_ ih
    match it, h with
    | .inl (c, R), ⟨a, h1, h2, h3⟩ => exact ⟨a, h1, h2.extN hD hI e, h3⟩
    | .inr _, h => exact h
structure GInv (P : Program) (w : World) (K : PySem.W.Frag) (C : Addr) (H0 H : Hp) (t l d : Addr) (xs : List V) (c : Nat) (G : List (List Row)) (F : List Pr) (KS : List NestedKey) : Prop where
  tup : SqT K H t xs
  its : ItemsAt K C H xs (G.map fun R => .inl (c, R))
  fnd : ∃ ps, H l = some (.lst ps) ∧ DpAll K H ps (F.map prD)
  kno : ∃ ks, H d = some (KdO P w d ks) ∧ Kds K H ks ∧ ks.map (·.1) = KS ∧ ∀ x ∈ ks, tupy x.1.data = true
  h0 : Ext H0 H
  nl : H0 l = none
  nd : H0 d = none
section
variable {P : Program} {w : World} {K : PySem.W.Frag} {C : Addr} {H0 H H' : Hp} {t l d : Addr} {xs : List V} {c : Nat} {G : List (List Row)} {F : List Pr} {KS : List NestedKey}
theorem GInv.ext (I : GInv P w K C H0 H t l d xs c G F KS) (e : Ext H H') : GInv P w K C H0 H' t l d xs c G F KS := by
  obtain ⟨ps, h1, h2⟩ := I.fnd
  obtain ⟨ks, g1, g2, g3, g4⟩ := I.kno
  exact ⟨I.tup.ext e, I.its.ext e, ⟨ps, e _ _ h1, dpAll_ext' e h2⟩, ⟨ks, e _ _ g1, g2.ext e, g3, g4⟩, I.h0.trans e, I.nl, I.nd⟩
theorem ext_upd_new {o : HO} (e : Ext H0 H) (n : H0 d = none) : Ext H0 (upd H d o) := fun a u h => by
  rw [upd_ne (ne_of_none h n)]
  exact e a u h
theorem kds_extN {ks : List (NestedKey × Addr)} {D : Addr} (hD : ∀ xs, ¬ Rd H D (.tup xs)) (e : ExtL D H H') (h : Kds K H ks) (ht : ∀ x ∈ ks, tupy x.1.data = true) : Kds K H' ks := fun x hx => ⟨dp_extN hD e _ _ (ht x hx) (h x hx).1, (h x hx).2⟩
/-- found.append(e) -/
theorem GInv.app (I : GInv P w K C H0 H t l d xs c G F KS) {e : Pr} {v : V} (hv : Dp K H v (prD e)) {ps : List V} (hp : H l = some (.lst ps)) : GInv P w K C H0 (upd H l (.lst (ps ++ [v]))) t l d xs c G (F ++ [e]) KS := by
  obtain ⟨ps', h1, h2⟩ := I.fnd
  rw [hp] at h1
  cases h1
  obtain ⟨ks, g1, g2, g3, g4⟩ := I.kno
  have nt := nt_lst hp
  have ni : ∀ dx fs, H l ≠ some (.ins C dx fs) := fun _ _ z => by rw [hp] at z; cases z
  have x : ExtL l H (upd H l (.lst (ps ++ [v]))) := ExtL.upd
  have ndl : d ≠ l := fun z => by subst z; rw [hp] at g1; cases g1
  refine ⟨sqT_extN nt x I.tup, I.its.extN nt ni x, ⟨_, upd_same, ?_⟩, ⟨ks, by rw [upd_ne ndl]; exact g1, kds_extN nt x g2 g4, g3, g4⟩, ext_upd_new I.h0 I.nl, I.nl, I.nd⟩
  rw [List.map_append]
  exact dpAll_app (dpAll_extN nt x _ _ (tupy_prs F) h2) (.cons (dp_extN nt x _ _ (tupy_pr e) hv) .nil)
/-- known[R] = True -/
theorem GInv.put (I : GInv P w K C H0 H t l d xs c G F KS) {R : List Row} {a : Addr} (ha : Dp K H (.ref a) (rowsD R)) {ks : List (NestedKey × Addr)} (hk : H d = some (KdO P w d ks)) (hm : ks.map (·.1) = KS) (hK : Kds K H ks) (h4 : ∀ x ∈ ks, tupy x.1.data = true) :
    GInv P w K C H0 (upd H d (KdO P w d (ks ++ [(rowsK R, a)]))) t l d xs c G F (KS ++ [rowsK R]) := by
  obtain ⟨ps, h1, h2⟩ := I.fnd
  have nt : ∀ xs, ¬ Rd H d (.tup xs) := nt_ext hk
  have ni : ∀ dx fs, H d ≠ some (.ins C dx fs) := fun _ _ z => by rw [hk] at z; cases z
  have x : ExtL d H (upd H d (KdO P w d (ks ++ [(rowsK R, a)]))) := ExtL.upd
  have nld : l ≠ d := fun z => by subst z; rw [hk] at h1; cases h1
  refine ⟨sqT_extN nt x I.tup, I.its.extN nt ni x, ⟨ps, by rw [upd_ne nld]; exact h1, dpAll_extN nt x _ _ (tupy_prs F) h2⟩, ⟨_, upd_same, ?_, by rw [List.map_append, hm]; rfl, ?_⟩, ext_upd_new I.h0 I.nd, I.nl, I.nd⟩
  · intro y hy
    rcases List.mem_append.mp hy with hy | hy
    · exact kds_extN nt x hK h4 y hy
    · rw [List.mem_singleton.mp hy]
      exact ⟨by show Dp K _ (.ref a) (rowsK R).data; rw [rows_data]; exact dp_extN nt x _ _ (tupy_rows R) ha, Nat.le_trans (rowsK_depth R) (by decide)⟩
  · intro y hy
    rcases List.mem_append.mp hy with hy | hy
    · exact h4 y hy
    · rw [List.mem_singleton.mp hy]
      show tupy (rowsK R).data = true
      rw [rows_data]
      exact tupy_rows R
end
/-! ### the mirror's steps -/
theorem gins_len (e : Pr) (F : List Pr) (g : List Row × Nat) : (gins e F g).length ≤ F.length + 1 := by
  unfold gins
  split
  · exact Nat.le_succ _
  · rw [List.length_append]; exact Nat.le_refl _
theorem gfold_len (e : Pr) : ∀ (gs : List (List Row × Nat)) (F : List Pr), (gs.foldl (gins e) F).length ≤ F.length + gs.length
  | [], F => Nat.le_refl _
  | g :: gs, F => by
    have h1 := gfold_len e gs (gins e F g)
    have h2 := gins_len e F g
    show (gs.foldl (gins e) (gins e F g)).length ≤ F.length + (gs.length + 1)
    omega
theorem gins_ok {c : Nat} {e : Pr} {F : List Pr} {g : List Row × Nat} (he : okRows c e.1) (hg : okRows c g.1) (hF : ∀ x ∈ F, okRows c x.1) : ∀ x ∈ gins e F g, okRows c x.1 := by
  unfold gins
  split
  · exact hF
  · intro x hx
    rcases List.mem_append.mp hx with hx | hx
    · exact hF x hx
    · rw [List.mem_singleton.mp hx]
      exact jrows_ok he hg
end K30
set_option maxHeartbeats 4000000
namespace K30
open PySem L2
/-- every tuple stands -/
def TK (H H' : Hp) : Prop := ∀ a o, H a = some o → (∃ xs, Rd H a (.tup xs)) → H' a = some o
theorem TK.of {H H' : Hp} (e : Ext H H') : TK H H' := fun a o h _ => e a o h
theorem TK.trans {H H1 H2 : Hp} (a : TK H H1) (b : TK H1 H2) : TK H H2 := fun c o h ⟨xs, t⟩ => by
  have h1 := a c o h ⟨xs, t⟩
  refine b c o h1 ⟨xs, ?_⟩
  rcases t with t | ⟨ob, t⟩
  · rw [h] at t; cases t; exact .inl h1
  · rw [h] at t; cases t; exact .inr ⟨ob, h1⟩
theorem TK.upd {H : Hp} {p : Addr} {o : HO} (n : ∀ xs, ¬ Rd H p (.tup xs)) : TK H (upd H p o) := fun a u h ⟨xs, t⟩ => by
  rw [upd_ne fun z => by subst z; exact n xs t]
  exact h
theorem sqT_tk {K : PySem.W.Frag} {H H' : Hp} (e : TK H H') {a : Addr} {xs : List V} (h : SqT K H a xs) : SqT K H' a xs := by
  rcases h with (h | ⟨o, h⟩) | h
  · exact .inl (.inl (e _ _ h ⟨xs, .inl h⟩))
  · exact .inl (.inr ⟨o, e _ _ h ⟨xs, .inr ⟨o, h⟩⟩⟩)
  · exact .inr h
mutual
theorem dp_tk {K : PySem.W.Frag} {H H' : Hp} (e : TK H H') : ∀ (d : PyData) (v : V), tupy d = true → Dp K H v d → Dp K H' v d
  | .none, _, _, h => by cases h; exact .non
  | .bool _, _, _, h => by cases h; exact .bl _
  | .int _, _, _, h => by cases h; exact .int _
  | .str _, _, _, h => by cases h; exact .str _
  | .list _, _, t, _ => by cases t
  | .dict _, _, t, _ => by cases t
  | .tuple ds, _, t, h => by
    cases h with
    | tup hs ha => exact .tup (sqT_tk e hs) (dpAll_tk e ds _ t ha)
theorem dpAll_tk {K : PySem.W.Frag} {H H' : Hp} (e : TK H H') : ∀ (ds : List PyData) (vs : List V), tupyAll ds = true → DpAll K H vs ds → DpAll K H' vs ds
  | [], _, _, h => by cases h; exact .nil
  | d :: ds, _, t, h => by
    rw [tupyAll, Bool.and_eq_true] at t
    cases h with
    | cons h1 h2 => exact .cons (dp_tk e d _ t.1 h1) (dpAll_tk e ds _ t.2 h2)
end
theorem gfold_ok {c : Nat} {e : Pr} (he : okRows c e.1) : ∀ (gs : List (List Row × Nat)) (F : List Pr), (∀ g ∈ gs, okRows c g.1) → (∀ x ∈ F, okRows c x.1) → ∀ x ∈ gs.foldl (gins e) F, okRows c x.1
  | [], F, _, h => h
  | g :: gs, F, hg, h => gfold_ok he gs _ (fun x hx => hg x (List.mem_cons_of_mem _ hx)) (gins_ok he (hg g (List.mem_cons_self ..)) h)
theorem pr_inv {K : PySem.W.Frag} {H : Hp} {v : V} {e : Pr} (h : Dp K H v (prD e)) : ∃ t a b, v = .ref t ∧ SqT K H t [a, b] ∧ Dp K H a (rowsD e.1) ∧ Dp K H b (idxD e.2) := by
  unfold prD at h
  cases h with
  | tup hs ha =>
    cases ha with
    | cons h1 h2 =>
      cases h2 with
      | cons h2 h3 =>
        cases h3
        exact ⟨_, _, _, rfl, hs, h1, h2⟩
theorem idx_inv {K : PySem.W.Frag} {H : Hp} {v : V} {is : List Nat} (h : Dp K H v (idxD is)) : ∃ t, v = .ref t ∧ SqT K H t (is.map fun i => V.int (i : Nat)) := by
  unfold idxD at h
  cases h with
  | @tup a xs ds hs ha =>
    refine ⟨a, rfl, ?_⟩
    have : xs = is.map fun i => V.int (i : Nat) := by
      clear hs
      induction is generalizing xs with
      | nil => cases ha; rfl
      | cons i is ih =>
        cases ha with
        | cons h1 h2 =>
          cases h1
          rw [List.map_cons, ih h2]
    rw [← this]
    exact hs
theorem idx_mk {K : PySem.W.Frag} {H : Hp} {t : Addr} : ∀ {is : List Nat}, SqT K H t (is.map fun i => V.int (i : Nat)) → Dp K H (.ref t) (idxD is) := fun {is} h => by
  refine .tup h ?_
  clear h
  induction is with
  | nil => exact .nil
  | cons i is ih => exact .cons (.int _) ih
/-- a pair of what generated gives: a new effect, its indices -/
def PairAt (K : PySem.W.Frag) (C : Addr) (H : Hp) (v : V) (e : Pr) : Prop := ∃ t a u, v = .ref t ∧ SqT K H t [.ref a, .ref u] ∧ EfAt K C H a e.1 ∧ Dp K H (.ref u) (idxD e.2)
theorem PairAt.ext {K : PySem.W.Frag} {C : Addr} {H H' : Hp} {v : V} {e : Pr} (h : PairAt K C H v e) (x : Ext H H') : PairAt K C H' v e := by
  obtain ⟨t, a, u, h1, h2, h3, h4⟩ := h
  exact ⟨t, a, u, h1, h2.ext x, h3.ext x, dp_ext' x h4⟩
theorem PairAt.extL {K : PySem.W.Frag} {C : Addr} {H H' : Hp} {v : V} {e : Pr} {D : Addr} {acc : List V} (h : PairAt K C H v e) (hD : H D = some (.lst acc)) (x : ExtL D H H') : PairAt K C H' v e := by
  obtain ⟨t, a, u, h1, h2, h3, h4⟩ := h
  exact ⟨t, a, u, h1, sqT_extL hD x h2, h3.extL hD x, dp_extL hD x _ _ (tupy_idx _) h4⟩
def PairsAt (K : PySem.W.Frag) (C : Addr) (H : Hp) (l : Addr) (F : List Pr) : Prop := ∃ ps, H l = some (.lst ps) ∧ ps.length = F.length ∧ ∀ (i : Nat) v e, ps[i]? = some v → F[i]? = some e → PairAt K C H v e
theorem PairsAt.ext {K : PySem.W.Frag} {C : Addr} {H H' : Hp} {l : Addr} {F : List Pr} (h : PairsAt K C H l F) (x : Ext H H') : PairsAt K C H' l F := by
  obtain ⟨ps, h1, h2, h3⟩ := h
  exact ⟨ps, x _ _ h1, h2, fun i v e a b => (h3 i v e a b).ext x⟩
def spGenB (K : PySem.W.Frag) (C Ci Cm Cn CL : Addr) : Sp := fun vs H Q E => ∃ (most : Int) (t : Addr) (xs : List V) (its : List Item), vs = [.int most, .ref t] ∧ SqT K H t xs ∧ ItemsAt K C H xs its ∧ its.length ≤ 10 ∧
  match checkE its with
  | .bad p => ∀ d H', ExD H H' d [("position", optV p)] → E (.ref Ci) (some d) H'
  | .cap c d => ∀ e H', ExD H H' e [("second", .int d), ("first", .int c)] → E (.ref Cm) (some e) H'
  | .ok => (¬ (1 ≤ most ∧ most ≤ 2000) → ∀ H', Ext H H' → E (.ref Cn) none H') ∧ ((1 ≤ most ∧ most ≤ 2000) → ∃ (c : Nat) (G : List (List Row)) (n : Nat), its = G.map (fun R => .inl (c, R)) ∧ 1 ≤ c ∧ c ≤ 100 ∧ G ≠ [] ∧ most = (n : Int) ∧
    match genR c G n with
    | none => ∀ d H', ExD H H' d [("size", .int most)] → E (.ref CL) (some d) H'
    | some F => ∀ H' l, Ext H H' → PairsAt K C H' l F → Q (.ref l) H')
section
variable {P : Program} {w : World} {K : PySem.W.Frag} {mg : Str → Option Value} {base : Heap}
theorem mono_rows2 {x : V} {σ : L2.St} {H : Hp} {i j : Nat} {Q R : L2.St → Hp → Prop} (h : ∀ σ H, Q σ H → R σ H) (q : gTup K 2 (gCons (gName i) (gCons (gName j) gNil)) x σ H Q) : gTup K 2 (gCons (gName i) (gCons (gName j) gNil)) x σ H R := by
  obtain ⟨a, xs, e, s, l, v, r, e1, v2, r2, e2, e3, q⟩ := q
  exact ⟨a, xs, e, s, l, v, r, e1, v2, r2, e2, e3, h _ _ q⟩
theorem gins_grow (e : Pr) (F : List Pr) (g : List Row × Nat) : F.length ≤ (gins e F g).length := by
  unfold gins
  split
  · exact Nat.le_refl _
  · rw [List.length_append]; exact Nat.le_add_right _ _
theorem gins_idx {e : Pr} {F : List Pr} {g : List Row × Nat} (he : e.2.length ≤ F.length) (h : ∀ x ∈ F, x.2.length ≤ F.length) : ∀ x ∈ gins e F g, x.2.length ≤ (gins e F g).length := by
  unfold gins
  split
  · exact h
  · intro x hx
    rw [List.length_append]
    rcases List.mem_append.mp hx with hx | hx
    · exact Nat.le_trans (h x hx) (Nat.le_add_right _ _)
    · rw [List.mem_singleton.mp hx]
      show (e.2 ++ [g.2]).length ≤ _
      rw [List.length_append]
      exact Nat.add_le_add_right he 1
theorem zipIdx_take {G : List (List Row)} {j : Nat} {R : List Row} (h : G[j]? = some R) (e : Pr) (F : List Pr) : ((G.zipIdx.take (j + 1)).foldl (gins e) F) = gins e ((G.zipIdx.take j).foldl (gins e) F) (R, j) := by
  have : G.zipIdx[j]? = some (R, j) := by rw [List.getElem?_zipIdx, h]; simp
  rw [List.take_add_one, this, List.foldl_append]
  rfl
theorem scGen : FnScope ["most", "effects", "capacity", "start", "known", "found", "at", "rows", "indices", "index", "effect", "product"] ["most", "effects"] (defScope sGen) := ⟨rfl, rfl, rfl, by decide +kernel, rfl, by decide +kernel, by decide +kernel⟩
abbrev NG : List Str := ["most", "effects", "capacity", "start", "known", "found", "at", "rows", "indices", "index", "effect", "product"]
theorem gen_body {fA : Addr} {cdv : Value} {A : Around} {outer : List Env} {s : Shared} {H : Hp} {vs : List V} {Q : VK} {E : XK} (T : EfC K mg) (B : Nb mg) (XL : ExL K mg) {tk : Tok} (mM : mg "MOST_GENERATED" = some (.int 2000 tk))
    {Ci Cm Cn : Addr} (FE : Df K mg "check_effects" sChkE) (GE : FnOk P w K mg base (L2.CX P w) 4 FE.f FE.fd ["effects"] (spChkE K T.C Ci Cm)) (FN : DfD K mg "check_integer" sChkInt [.int 0, .non]) (GN : FnOk P w K mg base (L2.CX P w) 2 FN.f FN.fd ["value", "least", "greatest"] (spChkInt Cn))
    (FI : Df K mg "identity_rows" sIdRows) (GI : FnOk P w K mg base CX0 1 FI.f FI.fd ["capacity"] (spIdRows K)) (FJ : Df K mg "joined_rows" sJrows) (GJ : FnOk P w K mg base CX0 2 FJ.f FJ.fd ["first", "second"] (spJrows K))
    (GM : FnOk P w K mg base CX0 6 T.fI.f T.fI.fd ["self", "capacity", "rows"] (spInit K T.C)) (hr : Room 7 (A.deeper (PyProof.Rows.envOfC "generated" (defScope sGen) s.heap.objs.size fA cdv))) (h : spGenB K T.C Ci Cm Cn XL.C vs H Q E) :
    ∃ t, PSs (cxOf (L2.CX P w) P w K mg base NG "generated" (defScope sGen) fA cdv A outer s H E) (defBody sGen) t ∧ t { nx := fun _ H' => Q .non H', rt := Q } (L2.start NG vs) H := by
  obtain ⟨most, t, xs, its, rfl, hs, hI, hlen, k⟩ := h
  have hr2 : Room 2 (A.deeper (PyProof.Rows.envOfC "generated" (defScope sGen) s.heap.objs.size fA cdv)) := hr.mono (by decide)
  have hu9 : (A.deeper (PyProof.Rows.envOfC "generated" (defScope sGen) s.heap.objs.size fA cdv)).units + 9 < cLine := by have := hr.un; omega
  have bN : Binds K FN.fd ["value", "least", "greatest"] [] := by
    obtain ⟨ds, r, b⟩ := FN.F.binds1 (ps := ["value", "least", "greatest"]) 3 2 (by simp) rfl (fun T kV doc pm an cdv ct us its h1 h2 => match us, its, h1, h2 with | [_, _, _], [_, _], _, _ => ⟨_, rfl, rfl⟩)
    cases r
    exact b
  have bE : Binds K FE.fd ["effects"] [] := FE.F.binds (ps := ["effects"]) fun _ _ _ _ _ _ us hl => match us, hl with | [_], _ => rfl
  refine ⟨_, (pss_cons (ps_expr (pe_call GE (hr.mono (by decide)) (by rfl) FE.m FE.F.kp bE .nil (passes_call (takes_of rfl rfl rfl rfl) fun _ _ _ _ h => h) (pa_cons (pv 1) pa_nil))) (pss_cons (ps_expr (pe_call GN hr2 (by rfl) FN.m FN.F.kp bN .nil (passes_call (takes_of rfl rfl rfl rfl) fun _ _ _ _ h => h) (pa_cons (pv 0) (pa_cons pe_int (pa_cons (pe_glob (v := .int 2000) (by rfl) mM ⟨_, rfl⟩) pa_nil))))) (pss_cons (ps_set (i := 2) scGen.nd rfl (Or.inr rfl) (q_cap (k := 0) T B (pe_ix ix_tup (pv 1) pe_int (fun _ _ => rfl)) hr2)) (pss_cons (ps_set (i := 3) scGen.nd rfl (Or.inl rfl) (pe_call GI (hr.mono (by decide)) (by rfl) FI.m FI.F.kp (bIdRows FI) .nil pass0 (pa_cons (pv 2) pa_nil))) (pss_cons (ps_set (i := 4) scGen.nd rfl (Or.inl rfl) (pe_kd1 hu9 (pv 3))) (pss_cons (ps_set (i := 5) scGen.nd rfl (Or.inl rfl) (pe_lst (pa_cons (pe_tup (pa_cons (pv 3) (pa_cons (pe_tup pa_nil) pa_nil))) pa_nil))) (pss_cons (ps_set (i := 6) scGen.nd rfl (Or.inl rfl) pe_int) (pss_cons (ps_while PassesOwn.leaving (pt_cmpR op_lt (pv 6) (q_len (pv 5) B) (nomark _)) (pss_cons (ps_asg (pe_ix ix_list (pv 5) (pv 6) (fun _ _ => rfl)) (pg_tup (by rfl) (pgs_cons (pg_name (i := 7) scGen.nd rfl (.inl rfl)) (pgs_cons (pg_name (i := 8) scGen.nd rfl (.inl rfl)) pgs_nil)))) (pss_cons (ps_for PassesOwn.leaving rfl (pi_enumS (by rfl) B.enumerate (pa_cons (pv 1) pa_nil)) (pg_tup (by rfl) (pgs_cons (pg_name (i := 9) scGen.nd rfl (.inl rfl)) (pgs_cons (pg_name (i := 10) scGen.nd rfl (.inl rfl)) pgs_nil))) (pss_cons (ps_set (i := 11) scGen.nd rfl (Or.inl rfl) (pe_call GJ hr2 (by rfl) FJ.m FJ.F.kp (bJrows FJ) .nil pass0 (pa_cons (pv 7) (pa_cons (q_rows (k := 0) T (pv 10) hr2) pa_nil)))) (pss_one (ps_if (pt_cmpR (op_kdNot hu9) (pv 11) (pv 4) (by rfl)) (pss_cons (ps_asg pe_bl (pg_sub (pv 4) (pv 11) (set_kd hu9))) (pss_one (ps_expr (pe_bm PySem.F.plainAttrs_list PySem.F.slot_list_append PySem.F.type_list_append mt_append (pv 5) (pa_cons (pe_tup (pa_cons (pv 11) (pa_cons (pe_tup (StX.pa_star (pv 8) (pa_cons (pv 9) pa_nil))) pa_nil))) pa_nil))))) pss_nil)))) (pss_cons (ps_if (pt_cmpR op_gt (q_len (pv 5) B) (pv 0) (nomark _)) (pss_one (ps_raise rfl (takes_of rfl rfl rfl rfl) (pmk_ov XL.T XL.iC XL.tI (ok_limI XL) hr2 (bLimI XL) .nil pass0 (by rfl) XL.m (pa_cons (pv 0) pa_nil)))) pss_nil) (pss_one (ps_aug (i := 6) scGen.nd rfl (Or.inl rfl) pe_int ip_add)))))) (pss_one (ps_ret (pe_lc (own := [("rows", 7), ("indices", 8)]) (g := gTup K 2 (gCons (gName 7) (gCons (gName 8) gNil))) (tt := tYes) rfl scGen.nd (pi_list (pv 5)) (blkOk_by (N := NG) (sc := defScope sGen) (by decide +kernel)) (fun _ _ _ _ _ => (pg_tup (by rfl) (pgs_cons (pg_name (i := 7) scGen.nd rfl (.inl rfl)) (pgs_cons (pg_name (i := 8) scGen.nd rfl (.inl rfl)) pgs_nil)))) (fun _ _ _ _ _ => pts_nil) (fun _ _ _ _ _ => (pe_tup (pa_cons (pe_make T.M GM hr (by rfl) T.m (bInit T) .nil pass0 (pa_cons (pv 2) (pa_cons (pv 7) pa_nil))) (pa_cons (pv 8) pa_nil))))))))))))))), ?_⟩
  have hl := hI.len
  refine ⟨_, rfl, t, xs, its, rfl, hs, hI, ?_⟩
  generalize checkE its = ck at k ⊢
  match ck, k with
  | .bad p, k => exact k
  | .cap c d, k => exact k
  | .ok, k =>
  intro H1 e1
  refine ⟨_, rfl, most, 1, 2000, rfl, fun hm => ?_, fun hm => k.1 hm H1 e1⟩
  obtain ⟨c, G, n, rfl, h1, h2, hG, rfl, k⟩ := k.2 hm
  rw [List.length_map] at hl hlen
  have hn : 1 ≤ n ∧ n ≤ 2000 := by omega
  have hs1 := hs.ext e1
  have hI1 := hI.ext e1
  have hpos : 0 < xs.length := by rw [hl]; exact List.length_pos_iff.mpr hG
  obtain ⟨it0, eit0, dit0⟩ := hI1.at (List.getElem?_eq_getElem hpos)
  have gAt : ∀ {i : Nat} {it : Item}, (G.map fun R => (Sum.inl (c, R) : Item))[i]? = some it → ∃ R, G[i]? = some R ∧ it = .inl (c, R) := fun {i it} e => by
    rw [List.getElem?_map] at e
    cases q : G[i]? with
    | none => rw [q] at e; cases e
    | some R => rw [q] at e; cases e; exact ⟨R, rfl, rfl⟩
  obtain ⟨R0, _, rfl⟩ := gAt eit0
  obtain ⟨a0, ea0, hE0, o0, _⟩ := dit0
  obtain ⟨dx0, t0, g0, _⟩ := id hE0
  refine ⟨_, rfl, t, xs, 0, .ref a0, rfl, rfl, hs1, atI_nat (j := 0) (by rw [List.getElem?_eq_getElem hpos, ea0]), a0, dx0, _, rfl, g0, a0, R0, c, rfl, hE0, o0.1, ?_⟩
  refine ⟨_, rfl, c, rfl, h2, fun H2 v3 e2 d3 => ?_⟩
  obtain ⟨a3, xs3, rfl, hs3, _⟩ := rows_inv d3
  intro d hd
  have tk1 : TK H2 (upd H2 d (KdO P w d [])) := TK.of (Ext.upd hd)
  have d3' := dp_tk tk1 _ _ (tupy_rows _) d3
  refine ⟨_, rfl, a3, rowsK (idRows c), rfl, upd_same, by rw [rows_data]; exact d3', Nat.le_trans (rowsK_depth _) (by decide), ?_⟩
  let H3 : Hp := upd (upd H2 d (KdO P w d [])) d (KdO P w d [(rowsK (idRows c), a3)])
  have x3 : Ext H2 H3 := ext_upd_new (ext_upd_new Ext.rfl' hd) hd
  have hd3 : H3 d = some (KdO P w d [(rowsK (idRows c), a3)]) := upd_same
  have d33 : Dp K H3 (.ref a3) (rowsD (idRows c)) := dp_ext' x3 d3
  have two : 2 ≤ sizeLine := by rw [sizeLine_eq]; decide
  refine ⟨_, rfl, by show 0 ≤ sizeLine; omega, fun q hq => ⟨two, fun r hr' => ⟨by show 1 ≤ sizeLine; omega, fun l hl' => ?_⟩⟩⟩
  have e4 : Ext H3 (upd (upd (upd H3 q (.tup [])) r (.tup [.ref a3, .ref q])) l (.lst [.ref r])) := ((Ext.upd hq).trans (Ext.upd hr')).trans (Ext.upd hl')
  have nl2 : H2 l = none := by
    cases z : H2 l with
    | none => rfl
    | some o =>
      have := (((Ext.upd (o := HO.tup []) hq).trans (Ext.upd (o := HO.tup [.ref a3, .ref q]) hr'))) _ _ (x3 _ _ z)
      rw [hl'] at this; cases this
  have I0 : GInv P w K T.C H2 (upd (upd (upd H3 q (.tup [])) r (.tup [.ref a3, .ref q])) l (.lst [.ref r])) t l d xs c G [(idRows c, [])] [rowsK (idRows c)] := by
    refine ⟨hs1.ext (e2.trans (x3.trans e4)), hI1.ext (e2.trans (x3.trans e4)), ⟨[.ref r], upd_same, .cons ?_ .nil⟩, ⟨_, e4 _ _ hd3, ?_, rfl, ?_⟩, x3.trans e4, nl2, hd⟩
    · have nrl : r ≠ l := fun z => by subst z; rw [upd_same] at hl'; cases hl'
      refine .tup (SqT.of (by rw [upd_ne nrl, upd_same])) (.cons (dp_ext' e4 d33) (.cons (idx_mk (is := []) (SqT.of ?_)) .nil))
      have nqr : q ≠ r := fun z => by subst z; rw [upd_same] at hr'; cases hr'
      have nql : q ≠ l := fun z => by subst z; rw [upd_ne nqr, upd_same] at hl'; cases hl'
      rw [upd_ne nql, upd_ne nqr, upd_same]
      rfl
    · intro x hx
      rw [List.mem_singleton.mp hx]
      exact ⟨by show Dp K _ (.ref a3) (rowsK (idRows c)).data; rw [rows_data]; exact dp_ext' e4 d33, Nat.le_trans (rowsK_depth _) (by decide)⟩
    · intro x hx
      rw [List.mem_singleton.mp hx]
      show tupy (rowsK (idRows c)).data = true
      rw [rows_data]
      exact tupy_rows _
  have hE2 : Ext H H2 := e1.trans e2
  refine while_d (fun σ H' => ∃ (i m : Nat) (F : List Pr) (o7 o8 o9 o10 o11 : Option V), σ = [some (.int (n : Int)), some (.ref t), some (.int (c : Int)), some (.ref a3), some (.ref d), some (.ref l), some (.int (i : Int)), o7, o8, o9, o10, o11] ∧
      gen G n m i F = genR c G n ∧ i + m = n + 2 ∧ i ≤ F.length ∧ F.length ≤ n ∧ (∀ e ∈ F, okRows c e.1) ∧ (∀ e ∈ F, e.2.length ≤ F.length) ∧ GInv P w K T.C H2 H' t l d xs c G F (F.map fun e : Pr => rowsK e.1))
    (fun σ _ => n + 2 - slotN σ 6) ⟨0, n + 2, [(idRows c, [])], none, none, none, none, none, rfl, rfl, by omega, by simp, by simp; omega, fun e he => ?_, fun e he => ?_, I0⟩ ?_
  · rw [List.mem_singleton.mp he]; exact idRows_ok c
  · rw [List.mem_singleton.mp he]; exact Nat.zero_le _
  rintro σ H' ⟨i, m, F, o7, o8, o9, o10, o11, rfl, hgen, him, hiF, hFn, hok, hidx, GI'⟩
  obtain ⟨ps, hps, hpd⟩ := GI'.fnd
  have hpl := dpAll_len hpd
  rw [List.length_map] at hpl
  refine ⟨_, rfl, _, rfl, l, ps, rfl, .inl (SqL.of hps), _, _, rfl, rfl, _, rfl, ?_⟩
  by_cases hlt : i < F.length
  · rw [decide_eq_true (show (i : Int) < (ps.length : Int) by omega)]
    refine iteT ⟨_, lower, ?_⟩
    have eF : F[i]? = some F[i] := List.getElem?_eq_getElem hlt
    generalize F[i] = e at eF
    have he : e ∈ F := List.mem_of_getElem? eF
    obtain ⟨v, ev, dv⟩ := dpAll_get hpd (show (F.map prD)[i]? = some (prD e) by rw [List.getElem?_map, eF]; rfl)
    obtain ⟨tp, a, b, rfl, hst, da, db⟩ := pr_inv dv
    refine ⟨_, rfl, _, rfl, l, ps, (i : Int), .ref tp, rfl, rfl, SqL.of hps, atI_nat ev, tp, [a, b], rfl, hst, rfl, _, _, rfl, _, _, rfl, rfl, ?_⟩
    refine ⟨_, rfl, t, rfl, .inr ⟨xs, GI'.tup, for_it (walk_enumT (xs := xs)) (fun j σ H' => ∃ o9 o10 o11, σ = [some (.int (n : Int)), some (.ref t), some (.int (c : Int)), some (.ref a3), some (.ref d), some (.ref l), some (.int (i : Int)), some a, some b, o9, o10, o11] ∧
        GInv P w K T.C H2 H' t l d xs c G ((G.zipIdx.take j).foldl (gins e) F) (((G.zipIdx.take j).foldl (gins e) F).map fun e : Pr => rowsK e.1) ∧ (∀ x ∈ (G.zipIdx.take j).foldl (gins e) F, okRows c x.1) ∧
        (∀ x ∈ (G.zipIdx.take j).foldl (gins e) F, x.2.length ≤ ((G.zipIdx.take j).foldl (gins e) F).length) ∧ e.2.length ≤ ((G.zipIdx.take j).foldl (gins e) F).length ∧ Dp K H' a (rowsD e.1) ∧ Dp K H' b (idxD e.2) ∧ ((G.zipIdx.take j).foldl (gins e) F).length ≤ F.length + j)
      ⟨_, _, _, rfl, GI', hok, hidx, hidx e he, da, db, Nat.le_refl _⟩ (fun j σ H' _ q => by obtain ⟨_, _, _, _, q, _⟩ := q; exact q.tup) ?_ ?_⟩⟩
    · rintro j x σ H4 H5 hj ⟨o9, o10, o11, rfl, GJ', hokj, hidxj, hej, daj, dbj, hlj⟩ ⟨tq, u, v, rfl, htq, rfl, hu, hv⟩
      cases hu
      let H5 : Hp := upd H4 tq (.tup [.int (j : Nat), v])
      have x5 : Ext H4 H5 := Ext.upd htq
      have hq5 : H5 tq = some (.tup [.int (j : Nat), v]) := upd_same
      have G5 := GJ'.ext x5
      obtain ⟨it, eit, dit⟩ := G5.its.at hv
      obtain ⟨R, eR, rfl⟩ := gAt eit
      obtain ⟨a', rfl, hE', oR, _⟩ := dit
      obtain ⟨dx', t', g', _⟩ := id hE'
      rw [zipIdx_take eR]
      generalize (G.zipIdx.take j).foldl (gins e) F = Fj at GJ' hokj hidxj hej hlj G5 ⊢
      refine ⟨tq, _, rfl, SqT.of hq5, rfl, _, _, rfl, _, _, rfl, rfl, ?_⟩
      refine ⟨_, rfl, _, rfl, a', dx', _, rfl, g', a', R, rfl, hE', fun u du => ?_⟩
      refine ⟨_, _, e.1, R, c, rfl, dp_ext' x5 daj, du, h2, hok e he, oR, fun H6 z x6 dz => ?_⟩
      obtain ⟨pz, xz, rfl, hsz, _⟩ := rows_inv dz
      have G6 := G5.ext x6
      obtain ⟨ks, hk6, hK6, hm6, h46⟩ := G6.kno
      refine ⟨_, rfl, _, rfl, pz, d, rowsK (jrows e.1 R), ks, rfl, rfl, hk6, hK6, by rw [rows_data]; exact dz, Nat.le_trans (rowsK_depth _) (by decide), _, rfl, ?_⟩
      have hmem : rowsK (jrows e.1 R) ∈ ks.map (·.1) ↔ jrows e.1 R ∈ Fj.map (·.1) := by
        rw [hm6, ← mem_rowsK, List.map_map]
        rfl
      have da6 := dp_ext' x6 (dp_ext' x5 daj)
      have db6 := dp_ext' x6 (dp_ext' x5 dbj)
      by_cases hmm : jrows e.1 R ∈ Fj.map (·.1)
      · rw [decide_eq_true (hmem.mpr hmm)]
        refine iteF ?_
        have eg : gins e Fj (R, j) = Fj := if_pos hmm
        rw [eg]
        exact ⟨_, _, _, rfl, G6, hokj, hidxj, hej, da6, db6, by omega⟩
      · rw [decide_eq_false fun z => hmm (hmem.mp z)]
        refine iteT ?_
        have eg : gins e Fj (R, j) = Fj ++ [(jrows e.1 R, e.2 ++ [j])] := if_neg hmm
        have hkl : ks.length = Fj.length := by
          have := congrArg List.length hm6
          simpa using this
        have hFl : Fj.length ≤ 3000 := by have := hj; omega
        refine ⟨_, rfl, _, rfl, d, pz, rowsK (jrows e.1 R), ks, rfl, rfl, rfl, hk6, hK6, by rw [rows_data]; exact dz, Nat.le_trans (rowsK_depth _) (by decide), by omega, fun z => hmm (hmem.mp z), ?_⟩
        let H7 : Hp := upd H6 d (KdO P w d (ks ++ [(rowsK (jrows e.1 R), pz)]))
        have G7 : GInv P w K T.C H2 H7 t l d xs c G Fj (Fj.map (fun e : Pr => rowsK e.1) ++ [rowsK (jrows e.1 R)]) := G6.put dz hk6 hm6 hK6 h46
        have t7 : TK H6 H7 := TK.upd (nt_ext hk6)
        have dz7 := dp_tk t7 _ _ (tupy_rows _) dz
        have da7 := dp_tk t7 _ _ (tupy_rows _) da6
        have db7 := dp_tk t7 _ _ (tupy_idx _) db6
        obtain ⟨pj, hpj, hpdj⟩ := G7.fnd
        have hplj := dpAll_len hpdj
        rw [List.length_map] at hplj
        obtain ⟨tb, rfl, hsb⟩ := idx_inv db7
        refine ⟨_, rfl, .inl ⟨rfl, _, SqL.of hpj⟩, _, rfl, _, rfl, tb, _, rfl, .inl hsb, _, rfl, ?_, fun q1 hq1 => ⟨two, fun q2 hq2 => ?_⟩⟩
        · rw [List.length_append, List.length_map, sizeLine_eq]
          show e.2.length + 1 ≤ _
          omega
        let H8 : Hp := upd (upd H7 q1 (.tup ((e.2.map fun i => V.int (i : Nat)) ++ [.int (j : Nat)]))) q2 (.tup [.ref pz, .ref q1])
        have x8 : Ext H7 H8 := (Ext.upd hq1).trans (Ext.upd hq2)
        have h8 : Dp K H8 (.ref q2) (prD (jrows e.1 R, e.2 ++ [j])) := by
          have nq : q1 ≠ q2 := fun z => by subst z; rw [upd_same] at hq2; cases hq2
          refine .tup (SqT.of upd_same) (.cons (dp_ext' x8 dz7) (.cons (idx_mk (SqT.of ?_)) .nil))
          show upd (upd H7 q1 (.tup ((e.2.map fun i => V.int (i : Nat)) ++ [.int (j : Nat)]))) q2 (.tup [.ref pz, .ref q1]) q1 = _
          rw [upd_ne nq, upd_same, List.map_append]
          rfl
        refine ⟨l, pj, .ref q2, rfl, rfl, x8 _ _ hpj, by rw [sizeLine_eq]; omega, ?_⟩
        have G8 := G7.ext x8
        have G9 := G8.app h8 (x8 _ _ hpj)
        have t9 : TK H8 (upd H8 l (.lst (pj ++ [.ref q2]))) := TK.upd (nt_lst (x8 _ _ hpj))
        rw [eg]
        have ok9 := gins_ok (e := e) (F := Fj) (g := (R, j)) (hok e he) oR hokj
        have id9 := gins_idx (e := e) (F := Fj) (g := (R, j)) hej hidxj
        rw [eg] at ok9 id9
        refine ⟨_, _, _, rfl, ?_, ok9, id9, by rw [List.length_append]; omega, dp_tk t9 _ _ (tupy_rows _) (dp_ext' x8 da7), dp_tk t9 _ _ (tupy_idx _) (dp_ext' x8 db7), by rw [List.length_append]; show Fj.length + 1 ≤ _; omega⟩
        rw [List.map_append]
        exact G9
    · rintro σ H4 ⟨o9, o10, o11, rfl, G4, hok4, hid4, _, _, _, hl4⟩
      have ezl : G.zipIdx.take xs.length = G.zipIdx := List.take_of_length_le (by rw [List.length_zipIdx, hl]; exact Nat.le_refl _)
      rw [ezl] at G4 hok4 hid4 hl4
      obtain ⟨p4, hp4, hd4⟩ := G4.fnd
      have hp4l := dpAll_len hd4
      rw [List.length_map] at hp4l
      obtain ⟨m', rfl⟩ : ∃ m', m = m' + 1 := ⟨m - 1, by omega⟩
      have hg : gen G n (m' + 1) i F = if n < (gturn G e F).length then none else gen G n m' (i + 1) (gturn G e F) := by
        rw [gen, eF]
      have hgrow : ∀ (gs : List (List Row × Nat)) (F : List Pr), F.length ≤ (gs.foldl (gins e) F).length := by
        intro gs
        induction gs with
        | nil => intro F; exact Nat.le_refl _
        | cons g gs ih => intro F; exact Nat.le_trans (gins_grow e F g) (ih _)
      have hge : F.length ≤ (gturn G e F).length := hgrow _ _
      refine ⟨_, rfl, l, p4, rfl, .inl (SqL.of hp4), _, rfl, _, _, rfl, rfl, _, rfl, ?_⟩
      by_cases hbig : n < (gturn G e F).length
      · rw [decide_eq_true (show (n : Int) < (p4.length : Int) by rw [hp4l]; exact Int.ofNat_lt.mpr hbig)]
        rw [hg, if_pos hbig] at hgen
        rw [← hgen] at k
        refine iteT ⟨_, rfl, (by show 1 ≤ 1000; decide), fun x hx => ⟨x, _, rfl, upd_same, mk1 hx fun d' H' ed => ?_⟩⟩
        exact k d' H' (exD_ext (hE2.trans G4.h0) ed)
      · rw [decide_eq_false (show ¬ (n : Int) < (p4.length : Int) by rw [hp4l]; exact fun z => hbig (Int.ofNat_lt.mp z))]
        rw [hg, if_neg hbig] at hgen
        refine iteF ⟨_, rfl, _, _, rfl, rfl, ⟨i + 1, m', gturn G e F, _, _, _, _, _, rfl, hgen, by omega, by omega, by omega, hok4, hid4, G4⟩, ?_⟩
        show n + 2 - ((i : Int) + 1).toNat < n + 2 - ((i : Int)).toNat
        omega
  · rw [decide_eq_false (show ¬ (i : Int) < (ps.length : Int) by omega)]
    refine iteF ?_
    have ei : i = F.length := by omega
    obtain ⟨m', rfl⟩ : ∃ m', m = m' + 1 := ⟨m - 1, by omega⟩
    have hg : gen G n (m' + 1) i F = some F := by rw [gen, List.getElem?_eq_none (by omega)]
    rw [hg] at hgen
    rw [← hgen] at k
    refine ⟨_, rfl, l, rfl, ⟨_, SqL.of hps⟩, fun D hD => ?_⟩
    refine lc_pure (walk_list (xs := ps)) hD (by omega) (fun H6 e => SqL.of (e _ _ hps)) (fun j v H => ∀ e, F[j]? = some e → PairAt K T.C H v e) (fun i H x H' y => y.1 ▸ Ext.rfl')
      (fun i v H H' acc e1 e2 h e he => (h e he).extL e1 e2) ?_ ?_ (fun h q => mono_rows2 h q) (fun h q => h _ _ q)
    · rintro j x H6 H7 hj e6 ⟨rfl, hx⟩ RR hRR
      have ej : F[j]? = some F[j] := List.getElem?_eq_getElem (by omega)
      generalize F[j] = e at ej
      obtain ⟨v, ev, dv⟩ := dpAll_get (dpAll_ext' e6 hpd) (show (F.map prD)[j]? = some (prD e) by rw [List.getElem?_map, ej]; rfl)
      rw [hx] at ev; cases ev
      obtain ⟨tp, a, b, rfl, hst, da, db⟩ := pr_inv dv
      obtain ⟨ta, xa, rfl, hsa, hda⟩ := rows_inv da
      obtain ⟨tb, rfl, hsb⟩ := idx_inv db
      refine ⟨tp, _, rfl, hst, rfl, _, _, rfl, _, _, rfl, rfl, rfl, iteT (B := False) ?_⟩
      refine ⟨_, rfl, _, rfl, ?_⟩
      intro p dx hx0 hdx0 hne0
      have eM : Ext H7 (upd (upd H7 dx (.own p)) p (.ins T.C dx [])) := fun b o h => by rw [upd_ne (ne_of_none h hx0), upd_ne (ne_of_none h hdx0)]; exact h
      refine ⟨p, dx, ta, c, xa, e.1, rfl, upd_same, .inl (hsa.ext eM), dpAll_ext' eM hda, h1, h2, hok e (List.mem_of_getElem? ej), fun H8 hE g => ⟨rfl, ?_⟩⟩
      have e8 : Ext H7 H8 := fun b u h => g b u (eM b u h) (ne_of_none h hx0)
      refine ⟨_, rfl, two, fun q hq => hRR _ _ (e8.trans (Ext.upd hq)) fun e' he' => ?_⟩
      rw [ej] at he'; cases he'
      exact ⟨q, p, tb, rfl, SqT.of upd_same, hE.ext (Ext.upd hq), dp_ext' (e8.trans (Ext.upd hq)) db⟩
    · intro ys H6 hl' hy hR e6
      exact k H6 D ((hE2.trans GI'.h0).trans e6) ⟨ys, hy, by omega, fun j v e h he => hR j v h e he⟩
end
end K30
set_option maxHeartbeats 4000000
namespace K30
open PySem L2
theorem bg1 (kV doc pm : Value) (an : Option Addr) (cdv ct u : Value) (us : List Value) : bindArgs (PySem.W.fnOf "generated" "generated" (defArgs sGen) (defBody sGen) (defScope sGen) .none kV doc pm an cdv ct) ⟨us, [("most", u)]⟩ = (newTuple us >>= fun t => pure [(("most" : Str), u), (("effects" : Str), t)]) := by
  cases us with
  | nil => rfl
  | cons a r => rfl
theorem bg0 (D : Addr) (doc pm : Value) (an : Option Addr) (cdv ct : Value) (us : List Value) : ∃ (β γ : Type) (k1 : Option Value → Sem β) (k2 : β → Sem γ) (k3 : γ → Sem (List (Str × Value))), bindArgs (PySem.W.fnOf "generated" "generated" (defArgs sGen) (defBody sGen) (defScope sGen) .none (.ref D) doc pm an cdv ct) ⟨us, []⟩ = ((nsGet D "most" >>= k1) >>= k2) >>= k3 ∧
    ∀ u, ∃ a, k1 (some u) = pure a ∧ (k2 a >>= k3) = (newTuple us >>= fun t => pure [(("most" : Str), u), (("effects" : Str), t)]) := by
  cases us with
  | nil => exact ⟨_, _, _, _, _, rfl, fun u => ⟨_, rfl, rfl⟩⟩
  | cons a r => exact ⟨_, _, _, _, _, rfl, fun u => ⟨_, rfl, rfl⟩⟩
/-- generated as the top has left it -/
structure GenD (K : PySem.W.Frag) (mg : Str → Option Value) where
  f : Addr
  ex : ∃ (oc : Value) (od : Option Addr) (D : Addr) (doc pm : Value) (an : Option Addr) (cdv ct : Value) (osl : Array (Option Value)) (tk : Tok),
    K.lookup f = some ⟨oc, od, .func (PySem.W.fnOf "generated" "generated" (defArgs sGen) (defBody sGen) (defScope sGen) .none (.ref D) doc pm an cdv ct), osl⟩ ∧ PySem.W.codeIn K cdv "generated" = true ∧ PySem.W.nsIn K D "most" = some (some (.int 1000 tk))
  kp : PySem.W.keepIn K (.ref f) = true
  m : mg "generated" = some (.ref f)
def spGen (K : PySem.W.Frag) (C Ci Cm Cn CL : Addr) (most : Int) (vs : List V) (H : Hp) (Q : VK) (E : XK) : Prop := ∃ its : List Item, ItemsAt K C H vs its ∧ its.length ≤ 10 ∧
  match checkE its with
  | .bad p => ∀ d H', ExD H H' d [("position", optV p)] → E (.ref Ci) (some d) H'
  | .cap c d => ∀ e H', ExD H H' e [("second", .int d), ("first", .int c)] → E (.ref Cm) (some e) H'
  | .ok => (¬ (1 ≤ most ∧ most ≤ 2000) → ∀ H', Ext H H' → E (.ref Cn) none H') ∧ ((1 ≤ most ∧ most ≤ 2000) → ∃ (c : Nat) (G : List (List Row)) (n : Nat), its = G.map (fun R => .inl (c, R)) ∧ 1 ≤ c ∧ c ≤ 100 ∧ G ≠ [] ∧ most = (n : Int) ∧
    match genR c G n with
    | none => ∀ d H', ExD H H' d [("size", .int most)] → E (.ref CL) (some d) H'
    | some F => ∀ H' l, Ext H H' → PairsAt K C H' l F → Q (.ref l) H')
theorem spGen_B {K : PySem.W.Frag} {C Ci Cm Cn CL : Addr} {most : Int} {vs : List V} {H : Hp} {Q : VK} {E : XK} (h : spGen K C Ci Cm Cn CL most vs H Q E) {p : Addr} (hp : H p = none) : spGenB K C Ci Cm Cn CL [.int most, .ref p] (upd H p (.tup vs)) Q E := by
  obtain ⟨its, hI, hl, k⟩ := h
  have e : Ext H (upd H p (.tup vs)) := Ext.upd hp
  refine ⟨most, p, vs, its, rfl, SqT.of upd_same, hI.ext e, hl, ?_⟩
  generalize checkE its = ck at k ⊢
  match ck, k with
  | .bad q, k => exact fun d H' x => k d H' (exD_ext e x)
  | .cap c d, k => exact fun d H' x => k d H' (exD_ext e x)
  | .ok, k =>
    refine ⟨fun hm H' x => k.1 hm H' (e.trans x), fun hm => ?_⟩
    obtain ⟨c, G, n, h1, h2, h3, h4, h5, k⟩ := k.2 hm
    refine ⟨c, G, n, h1, h2, h3, h4, h5, ?_⟩
    generalize genR c G n = r at k ⊢
    match r, k with
    | none, k => exact fun d H' x => k d H' (exD_ext e x)
    | some F, k => exact fun H' l x => k H' l (e.trans x)
def kwOf : Option Value → List (Str × Value)
  | none => []
  | some u => [("most", u)]
/-- generated's promise: o is the keyword's value, if it is written -/
def GenR (P : Program) (w : World) (K : PySem.W.Frag) (mg : Str → Option Value) (base : Heap) (k : Nat) (f : Addr) (C Ci Cm Cn CL : Addr) : Prop :=
  ∀ (A : Around) (outer : List Env) (s : Shared) (H : Hp) (us : List Value) (vs : List V) (o : Option Value) (most : Int) (Q : VK) (E : XK), Room k A → Env0 P w K mg base A outer s H → Vals vs us → (o = none → most = 1000) → (∀ u, o = some u → RelV (.int most) u) →
    spGen K C Ci Cm Cn CL most vs H Q E → codeAny (model P w) A (.call (.ref f) ⟨us, kwOf o⟩) (CR (L2.CX P w) outer P w H s Q E) s
theorem gen_ok {P : Program} {w : World} {K : PySem.W.Frag} {mg : Str → Option Value} {base : Heap} (F : GenD K mg) (T : EfC K mg) (B : Nb mg) (XL : ExL K mg) {tk : Tok} (mM : mg "MOST_GENERATED" = some (.int 2000 tk))
    {Ci Cm Cn : Addr} (FE : Df K mg "check_effects" sChkE) (GE : FnOk P w K mg base (L2.CX P w) 4 FE.f FE.fd ["effects"] (spChkE K T.C Ci Cm)) (FN : DfD K mg "check_integer" sChkInt [.int 0, .non]) (GN : FnOk P w K mg base (L2.CX P w) 2 FN.f FN.fd ["value", "least", "greatest"] (spChkInt Cn))
    (FI : Df K mg "identity_rows" sIdRows) (GI : FnOk P w K mg base CX0 1 FI.f FI.fd ["capacity"] (spIdRows K)) (FJ : Df K mg "joined_rows" sJrows) (GJ : FnOk P w K mg base CX0 2 FJ.f FJ.fd ["first", "second"] (spJrows K))
    (GM : FnOk P w K mg base CX0 6 T.fI.f T.fI.fd ["self", "capacity", "rows"] (spInit K T.C)) : GenR P w K mg base 8 F.f T.C Ci Cm Cn XL.C := by
  obtain ⟨oc, od, D, doc, pm, an, cdv, ct, osl, tkM, lk, hcd, hD⟩ := F.ex
  intro A outer s H us vs o most Q E hr e0 r ho hz hsp
  have hl : us.length ≤ sizeLine := by
    obtain ⟨its, hI, hl, _⟩ := hsp
    rw [← r.length, hI.len, sizeLine_eq]
    omega
  have hn : H s.heap.objs.size = Option.none := e0.hok.fresh (Nat.le_refl _)
  have new : ObjOk P w (upd H s.heap.objs.size (.tup vs)) (s.heap.push ({ cls := .type "tuple", data := .seq us.toArray } : Obj)) s.heap.objs.size (.tup vs) := ⟨by rw [r.length]; exact hl, us, r, ⟨_, Heap.get?_push_size _ rfl, rfl, _, rfl⟩⟩
  have un := StX.un_laid (fs := frs outer) (s := s) (o := ({ cls := .type "tuple", data := .seq us.toArray } : Obj)) (u := .tup vs) hn
  refine StX.run_bnd (k := 7) lk hcd scGen hr e0 (G := fun xs H2 => ∃ p, H p = Option.none ∧ xs = [.int most, .ref p] ∧ H2 = upd H p (.tup vs)) (fun A' Ex Q' h => ?_) fun s2 H2 xs ⟨p, hp, ex, eH⟩ hr' => ?_
  · have tuple : ∀ u, RelV (.int most) u → wpAny (model P w) A' (newTuple us >>= fun t => pure [(("most" : Str), u), (("effects" : Str), t)]) Q' Ex s := fun u ru => by
      refine wpAny_bind (wpAny_newTuple (wpAny_pure ?_) hl)
      exact h _ _ [.int most, .ref s.heap.objs.size] [u, Value.ref s.heap.objs.size] (StX.env0_laid e0 new) un rfl (fun e s' => StX.cxUp outer s H _ _ E e s' un (fun b o q => Heap.get?_push_of_some _ q) rfl) (.cons ru (.cons rfl .nil)) rfl ⟨_, hn, rfl, rfl⟩
    cases o with
    | some u =>
      show wpAny _ _ (bindArgs _ ⟨us, [("most", u)]⟩) _ _ _
      rw [bg1]
      exact tuple u (hz u rfl)
    | none =>
      show wpAny _ _ (bindArgs _ ⟨us, []⟩) _ _ _
      obtain ⟨β, γ, k1, k2, k3, e1, e2⟩ := bg0 D doc pm an cdv ct us
      obtain ⟨a, e3, e4⟩ := e2 (.int 1000 tkM)
      have X : K.In s.heap := e0.mod.kin.keeps fun b o e => (e0.bs b o e).1
      have L1 : PySem.W.Looks (model P w) s.heap (nsGet D "most" >>= k1) a := (PySem.W.looks_nsIn X hD).andThen (PySem.W.Looks.of_pure e3)
      rw [e1, bind_assoc]
      refine wpAny_bind (L1.here ?_)
      rw [e4]
      rw [ho rfl] at tuple
      exact tuple _ ⟨_, rfl⟩
  · subst ex eH
    exact gen_body T B XL mM FE GE FN GN FI GI FJ GJ GM hr' (spGen_B hsp hp)
section
variable {X : Cx} {k : Nat} {f : Addr} {C Ci Cm Cn CL : Addr} {E : L2.St → XK} {p pos kp : Pos} {e ke : Expr} {es : List Expr} {ta : TA} {tk : TE}
theorem run_gen {pins : List (Addr × Obj)} {σ : L2.St} {H : Hp} {s : Shared} {Q : VK} {us : List Value} {vs : List V} {o : Option Value} {most : Int} (F : GenR X.prog X.w X.K X.mg X.base k f C Ci Cm Cn CL) (hr : Room k X.A) (hx : PassesAt (L2.CX X.prog X.w) X σ (E σ))
    (I : Inv X pins σ H s) (r : Vals vs us) (ho : o = none → most = 1000) (hz : ∀ u, o = some u → RelV (.int most) u) (h : spGen X.K C Ci Cm Cn CL most vs H Q (E σ)) : wpAny (model X.prog X.w) X.A (call (.ref f) us (kwOf o)) (EP X pins σ Q) X.xe s := by
  refine wpAny_call (codeAny_mono (F X.A X.stack s H us vs o most Q (E σ) hr I.env0 r ho hz h) fun r s' hq => ?_)
  cases r with
  | error e => exact hx pins H s e s' I hq
  | ok fl =>
    cases fl with
    | ret u => exact I.after hq
    | next => exact False.elim hq
    | brk => exact False.elim hq
    | cont => exact False.elim hq
/-- generated(e, .., most = z) -/
def tGenK (K : PySem.W.Frag) (C Ci Cm Cn CL : Addr) (E : L2.St → XK) (ta : TA) (tk : TE) : TE := fun σ H Q => ta σ H fun vs H1 => tk σ H1 fun z H2 => ∃ most, z = .int most ∧ spGen K C Ci Cm Cn CL most vs H2 Q (E σ)
theorem pe_genK (F : GenR X.prog X.w X.K X.mg X.base k f C Ci Cm Cn CL) (hr : Room k X.A) (hg : Gl X "generated") (hm : X.mg "generated" = some (.ref f)) (hk : PySem.W.keepIn X.K (.ref f) = true) (hx : ∀ σ, PassesAt (L2.CX X.prog X.w) X σ (E σ))
    (ha : PA X (e :: es) ta) (hkw : PE X ke tk) (hall : (backToKw pos (keywordEach [⟨some "most", ke, kp⟩] X.env)).all (·.1.isSome) = true := by rfl) (hks : (backToKw pos (keywordEach [⟨some "most", ke, kp⟩] X.env)).filterMap (·.1) = [("most" : Str)] := by rfl)
    (he : starEach (e :: es) X.env = (false, eval e X.env) :: starEach es X.env := by rfl)
    (hpl : ((backTo pos (starEach (e :: es) X.env)).any (·.1) || (backToKw pos (keywordEach [⟨some "most", ke, kp⟩] X.env)).any (·.1.isNone)) = false := by rfl) :
    PE X (.Call (.Name "generated" p) (e :: es) [⟨some "most", ke, kp⟩] pos) (tGenK X.K C Ci Cm Cn CL E ta tk) := by
  refine ⟨fun pins s σ H Q I h => ?_⟩
  refine wpAny_Call_Name_kw (ld_glob I hg hm ?_)
  refine PySem.W.callWith_KW (h₀ := X.base) I.ok.mod.kin hk hall (thn (ha.run pos pins s σ H _ I h) fun us s1 ⟨vs, H1, I1, r, q⟩ => ?_) hpl he
  refine thn ((pk_cons hkw pk_nil).run pos pins s1 σ H1 (fun zs H2 => ∃ z, zs = [z] ∧ ∃ most, z = .int most ∧ spGen X.K C Ci Cm Cn CL most vs H2 Q (E σ)) I1 ?_) fun ws s2 ⟨zs, H2, I2, rz, z, ez, most, em, q2⟩ => ⟨I2.kIn, ?_⟩
  · show tk σ H1 fun z H2 => _
    have : (fun z H2 => ∃ most, z = V.int most ∧ spGen X.K C Ci Cm Cn CL most vs H2 Q (E σ)) = fun z H2 => tNil σ H2 fun xs H3 => ∃ z', z :: xs = [z'] ∧ ∃ most, z' = V.int most ∧ spGen X.K C Ci Cm Cn CL most vs H3 Q (E σ) := by
      funext z H2
      exact propext ⟨fun ⟨m, a, b⟩ => ⟨z, rfl, m, a, b⟩, fun ⟨z', a, m, b, c⟩ => ⟨m, by cases a; exact b, c⟩⟩
    rw [← this]
    exact q
  · rw [hks]
    subst ez em
    cases rz with
    | @cons _ u _ _ r1 r2 =>
      cases r2
      show wpAny _ _ (call (.ref f) us [(("most" : Str), u)]) _ _ _
      exact run_gen (o := some u) F hr (hx σ) I2 r (fun z => nomatch z) (fun u' e => by cases e; exact r1) q2
/-- generated(most = z) -/
theorem pe_genK0 (F : GenR X.prog X.w X.K X.mg X.base k f C Ci Cm Cn CL) (hr : Room k X.A) (hg : Gl X "generated") (hm : X.mg "generated" = some (.ref f)) (hk : PySem.W.keepIn X.K (.ref f) = true) (hx : ∀ σ, PassesAt (L2.CX X.prog X.w) X σ (E σ))
    (hkw : PE X ke tk) (hall : (backToKw pos (keywordEach [⟨some "most", ke, kp⟩] X.env)).all (·.1.isSome) = true := by rfl) (hks : (backToKw pos (keywordEach [⟨some "most", ke, kp⟩] X.env)).filterMap (·.1) = [("most" : Str)] := by rfl)
    (hpl : ((backTo pos (starEach [] X.env)).any (·.1) || (backToKw pos (keywordEach [⟨some "most", ke, kp⟩] X.env)).any (·.1.isNone)) = false := by rfl) :
    PE X (.Call (.Name "generated" p) [] [⟨some "most", ke, kp⟩] pos) (tGenK X.K C Ci Cm Cn CL E tNil tk) := by
  refine ⟨fun pins s σ H Q I h => ?_⟩
  refine wpAny_Call_Name_kw (ld_glob I hg hm ?_)
  refine PySem.W.callWith_KW0 (h₀ := X.base) I.ok.mod.kin hk hall (thn ((pk_cons hkw pk_nil).run pos pins s σ H (fun zs H2 => ∃ z, zs = [z] ∧ ∃ most, z = .int most ∧ spGen X.K C Ci Cm Cn CL most [] H2 Q (E σ)) I ?_) fun ws s2 ⟨zs, H2, I2, rz, z, ez, most, em, q2⟩ => ⟨I2.kIn, ?_⟩) hpl
  · show tk σ H fun z H2 => _
    have : (fun z H2 => ∃ most, z = V.int most ∧ spGen X.K C Ci Cm Cn CL most [] H2 Q (E σ)) = fun z H2 => tNil σ H2 fun xs H3 => ∃ z', z :: xs = [z'] ∧ ∃ most, z' = V.int most ∧ spGen X.K C Ci Cm Cn CL most [] H3 Q (E σ) := by
      funext z H2
      exact propext ⟨fun ⟨m, a, b⟩ => ⟨z, rfl, m, a, b⟩, fun ⟨z', a, m, b, c⟩ => ⟨m, by cases a; exact b, c⟩⟩
    rw [← this]
    exact h
  · rw [hks]
    subst ez em
    cases rz with
    | @cons _ u _ _ r1 r2 =>
      cases r2
      show wpAny _ _ (call (.ref f) [] [(("most" : Str), u)]) _ _ _
      exact run_gen (o := some u) F hr (hx σ) I2 .nil (fun z => nomatch z) (fun u' e => by cases e; exact r1) q2
/-- generated(e, ..) -/
def tGen (K : PySem.W.Frag) (C Ci Cm Cn CL : Addr) (E : L2.St → XK) (ta : TA) : TE := fun σ H Q => ta σ H fun vs H1 => spGen K C Ci Cm Cn CL 1000 vs H1 Q (E σ)
theorem pe_gen (F : GenR X.prog X.w X.K X.mg X.base k f C Ci Cm Cn CL) (hr : Room k X.A) (hg : Gl X "generated") (hm : X.mg "generated" = some (.ref f)) (hk : PySem.W.keepIn X.K (.ref f) = true) (hx : ∀ σ, PassesAt (L2.CX X.prog X.w) X σ (E σ))
    (ha : PA X (e :: es) ta) (he : starEach (e :: es) X.env = (false, eval e X.env) :: starEach es X.env := by rfl) (hpl : (backTo pos (starEach es X.env)).any (·.1) = false := by rfl) :
    PE X (.Call (.Name "generated" p) (e :: es) [] pos) (tGen X.K C Ci Cm Cn CL E ta) := by
  refine ⟨fun pins s σ H Q I h => ?_⟩
  refine wpAny_Call_Name_kw (ld_glob I hg hm ?_)
  refine PySem.W.callWith_K (h₀ := X.base) I.ok.mod.kin hk (thn (ha.run pos pins s σ H _ I h) fun us s1 ⟨vs, H1, I1, r, q⟩ => ⟨I1.kIn, ?_⟩) he hpl
  exact run_gen (o := none) F hr (hx σ) I1 r (fun _ => rfl) (fun u e => nomatch e) q
end
end K30
set_option maxHeartbeats 4000000
namespace K30
open PySem L2
theorem firstInt_ok (c : Nat) : ∀ (G : List (List Row)) (i : Nat), firstInt (G.map fun R => (.inl (c, R) : Item)) i = none
  | [], _ => rfl
  | R :: G, i => by
    rw [List.map_cons, firstInt]
    exact firstInt_ok c G (i + 1)
theorem firstCap_ok (c : Nat) : ∀ (G : List (List Row)), firstCap c (G.map fun R => (.inl (c, R) : Item)) = none
  | [] => rfl
  | R :: G => by
    rw [List.map_cons, firstCap]
    exact (if_pos rfl).trans (firstCap_ok c G)
theorem checkE_ok {c : Nat} : ∀ {G : List (List Row)}, G ≠ [] → checkE (G.map fun R => (.inl (c, R) : Item)) = .ok
  | [], h => absurd rfl h
  | R :: G, _ => by
    have h1 := firstInt_ok c (R :: G) 0
    have h2 := firstCap_ok c (R :: G)
    rw [List.map_cons] at h1 h2 ⊢
    show (match firstInt _ 0 with | some p => Chk.bad (some p) | none => match firstCap c _ with | some d => Chk.cap c d | none => Chk.ok) = _
    rw [h1, h2]
abbrev itms (c : Nat) (G : List (List Row)) : List Item := G.map fun R => (.inl (c, R) : Item)
theorem ItemsAt.extL {K : PySem.W.Frag} {C : Addr} {H H' : Hp} {D : Addr} {acc : List V} (hD : H D = some (.lst acc)) (e : ExtL D H H') {vs : List V} {its : List Item} (h : ItemsAt K C H vs its) : ItemsAt K C H' vs its :=
  h.extN (nt_lst hD) (fun _ _ z => by rw [hD] at z; cases z) e
/-- the list of effects of one capacity -/
def EffsAt (K : PySem.W.Frag) (C : Addr) (H : Hp) (l c : Nat) (G : List (List Row)) : Prop := ∃ xs, H l = some (.lst xs) ∧ ItemsAt K C H xs (itms c G)
theorem EffsAt.ext {K : PySem.W.Frag} {C : Addr} {H H' : Hp} {l c : Nat} {G : List (List Row)} (h : EffsAt K C H l c G) (e : Ext H H') : EffsAt K C H' l c G := by
  obtain ⟨xs, h1, h2⟩ := h
  exact ⟨xs, e _ _ h1, h2.ext e⟩
theorem EffsAt.at {K : PySem.W.Frag} {C : Addr} {H : Hp} {c : Nat} {G : List (List Row)} {xs : List V} (h : ItemsAt K C H xs (itms c G)) {i : Nat} {R : List Row} (e : G[i]? = some R) : ∃ a, xs[i]? = some (.ref a) ∧ EfAt K C H a R ∧ okRows c R ∧ 1 ≤ c ∧ c ≤ 100 := by
  have hl := h.len
  rw [List.length_map] at hl
  have hi : i < xs.length := by have := (List.getElem?_eq_some_iff.mp e).1; omega
  obtain ⟨it, e2, d⟩ := h.at (List.getElem?_eq_getElem hi)
  rw [List.getElem?_map, e] at e2
  cases e2
  obtain ⟨a, ea, d⟩ := d
  exact ⟨a, by rw [List.getElem?_eq_getElem hi, ea], d⟩
section
variable {P : Program} {w : World} {K : PySem.W.Frag} {mg : Str → Option Value} {base : Heap}
def spLGen (K : PySem.W.Frag) (C : Addr) : Sp := fun vs H Q _ => ∃ (l c n : Nat) (G : List (List Row)), vs = [.ref l, .int n] ∧ EffsAt K C H l c G ∧ 1 ≤ G.length ∧ G.length ≤ 3 ∧ 1 ≤ c ∧ c ≤ 100 ∧ 1 ≤ n ∧ n ≤ 2000 ∧
  match genR c G n with
  | none => ∀ H', Ext H H' → Q (.int n) H'
  | some F => ∀ H' l', Ext H H' → PairsAt K C H' l' F → Q (.ref l') H'
theorem scLGen : FnScope ["_law_effects", "_law_bound", "e"] ["_law_effects", "_law_bound"] (defScope sLGen) := ⟨rfl, rfl, rfl, by decide +kernel, rfl, by decide +kernel, by decide +kernel⟩
abbrev tIxL (K : PySem.W.Frag) (i : Nat) (j : Int) : TE := tOp (rIxL K) (tVar i) (tC (.int j))
abbrev tLenEq (K : PySem.W.Frag) (i : Nat) (j : Int) : TT := tTest (tOp rEq (tCB (rLenQ K) (tCons (tVar i) tNil)) (tC (.int j)))
def tbL (K : PySem.W.Frag) (C Ci Cm Cn CL : Addr) (W : WX) : TS :=
  tSeq (tIfS (tLenEq K 0 1) (tRet (tGenK K C Ci Cm Cn CL (WE W) (tCons (tIxL K 0 0) tNil) (tVar 1))) tNext)
    (tSeq (tIfS (tLenEq K 0 2) (tRet (tGenK K C Ci Cm Cn CL (WE W) (tCons (tIxL K 0 0) (tCons (tIxL K 0 1) tNil)) (tVar 1))) tNext)
      (tRet (tGenK K C Ci Cm Cn CL (WE W) (tCons (tIxL K 0 0) (tCons (tIxL K 0 1) (tCons (tIxL K 0 2) tNil))) (tVar 1))))
theorem ok_lgen (F : Df K mg "_law_generated" sLGen) (B : Nb mg) {C Ci Cm Cn : Addr} (FG : GenD K mg) (XL : ExL K mg) (GG : GenR P w K mg base 8 FG.f C Ci Cm Cn XL.C) (te : PySem.W.exmOne K (.ref XL.C) (.ref XL.C) = some true) : FnOk P w K mg base CX0 9 F.f F.fd ["_law_effects", "_law_bound"] (spLGen K C) := by
  refine F.F.ok scLGen (fun vs H Q E h => ?_) (fun cdv A outer s H vs Q E hr h => ?_)
  · obtain ⟨l, c, n, G, rfl, _⟩ := h
    rfl
  · obtain ⟨l, c, n, G, rfl, hE, g1, g3, c1, c2, n1, n2, k⟩ := h
    refine ⟨_, pss_one (ps_try_as (i := 2) (tb := tbL K C Ci Cm Cn XL.C) (ts := fun a cls d => tRet (tXf a cls d XL.C "size" (tVar 2))) (Wout := fun _ _ _ _ => False) rfl rfl scLGen.nd rfl rfl ⟨rfl, by decide, Or.inl XL.m⟩ takes0
      (fun W pn xe tk _ => pss_cons (ps_if (pt_cmpR op_eq (q_len (pv 0) B) pe_int (nomark _)) (pss_one (ps_ret (pe_genK GG hr (by rfl) FG.m FG.kp (fun σ => passAt tk σ) (pa_cons (pe_ix ix_list (pv 0) pe_int (fun _ _ => rfl)) pa_nil) (pv 1)))) pss_nil)
        (pss_cons (ps_if (pt_cmpR op_eq (q_len (pv 0) B) pe_int (nomark _)) (pss_one (ps_ret (pe_genK GG hr (by rfl) FG.m FG.kp (fun σ => passAt tk σ) (pa_cons (pe_ix ix_list (pv 0) pe_int (fun _ _ => rfl)) (pa_cons (pe_ix ix_list (pv 0) pe_int (fun _ _ => rfl)) pa_nil)) (pv 1)))) pss_nil)
          (pss_one (ps_ret (pe_genK GG hr (by rfl) FG.m FG.kp (fun σ => passAt tk σ) (pa_cons (pe_ix ix_list (pv 0) pe_int (fun _ _ => rfl)) (pa_cons (pe_ix ix_list (pv 0) pe_int (fun _ _ => rfl)) (pa_cons (pe_ix ix_list (pv 0) pe_int (fun _ _ => rfl)) pa_nil))) (pv 1))))))
      (fun a oe cls d pn hz hf => pss_one (ps_ret (pe_xf XL.xf XL.n1 hz hf (pv 2))))), ?_⟩
    obtain ⟨xs, hx, hI⟩ := hE
    have hl := hI.len
    rw [List.length_map] at hl
    have hGne : G ≠ [] := by intro z; subst z; simp at g1
    -- the call itself
    have main : ∀ (D : Ends) (vs : List V), D.rt = Q → vs = xs → spGen K C Ci Cm Cn XL.C n vs H D.rt (WE (wAs K (.ref XL.C) 2 (fun a cls d => tRet (tXf a cls d XL.C "size" (tVar 2))) (fun _ _ _ _ => False) D) (L2.start ["_law_effects", "_law_bound", "e"] [.ref l, .int n])) := by
      rintro D vs hD rfl
      refine ⟨itms c G, hI, by rw [List.length_map]; omega, ?_⟩
      rw [checkE_ok hGne]
      refine ⟨fun z => absurd (by omega) z, fun _ => ⟨c, G, n, rfl, c1, c2, hGne, rfl, ?_⟩⟩
      generalize genR c G n = r at k ⊢
      match r, k with
      | some F, k => exact fun H' l' e p => by rw [hD]; exact k H' l' e p
      | none, k =>
        intro d H' ed
        refine ⟨true, te, fun _ a ha => ?_, fun z => nomatch z⟩
        refine ⟨_, rfl, rfl, rfl, d, _, _, rfl, ed.2.2, rfl, ?_⟩
        show D.rt (.int n) H'
        rw [hD]
        exact k H' ed.1
    have at_ : ∀ {i : Nat} {v : V}, xs[i]? = some v → atI xs (i : Int) = some v := fun h => atI_nat h
    match xs, hx, hI, hl, main with
    | [a], hx, hI, hl, main =>
      refine ⟨_, rfl, l, _, rfl, .inl (SqL.of hx), rfl, true, rfl, iteT ?_⟩
      exact ⟨_, rfl, l, _, 0, a, rfl, rfl, SqL.of hx, rfl, _, rfl, n, rfl, main _ _ rfl rfl⟩
    | [a, b], hx, hI, hl, main =>
      refine ⟨_, rfl, l, _, rfl, .inl (SqL.of hx), rfl, false, rfl, iteF ?_⟩
      refine ⟨_, rfl, l, _, rfl, .inl (SqL.of hx), rfl, true, rfl, iteT ?_⟩
      exact ⟨_, rfl, l, _, 0, a, rfl, rfl, SqL.of hx, rfl, _, rfl, l, _, 1, b, rfl, rfl, SqL.of hx, rfl, _, rfl, n, rfl, main _ _ rfl rfl⟩
    | [a, b, d], hx, hI, hl, main =>
      refine ⟨_, rfl, l, _, rfl, .inl (SqL.of hx), rfl, false, rfl, iteF ?_⟩
      refine ⟨_, rfl, l, _, rfl, .inl (SqL.of hx), rfl, false, rfl, iteF ?_⟩
      exact ⟨_, rfl, l, _, 0, a, rfl, rfl, SqL.of hx, rfl, _, rfl, l, _, 1, b, rfl, rfl, SqL.of hx, rfl, _, rfl, l, _, 2, d, rfl, rfl, SqL.of hx, rfl, _, rfl, n, rfl, main _ _ rfl rfl⟩
    | [], _, _, hl, _ => simp at hl; omega
    | _ :: _ :: _ :: _ :: _, _, _, hl, _ => simp at hl; omega
end
end K30
set_option maxHeartbeats 4000000
namespace K30
open PySem L2
/-- which except clause takes which exception -/
structure ExmF (K : PySem.W.Frag) (Ci Cm Cn : Addr) : Prop where
  ii : PySem.W.exmOne K (.ref Ci) (.ref Ci) = some true
  ci : PySem.W.exmOne K (.ref Cm) (.ref Ci) = some false
  cc : PySem.W.exmOne K (.ref Cm) (.ref Cm) = some true
  ni : PySem.W.exmOne K (.ref Cn) (.ref Ci) = some false
  nc : PySem.W.exmOne K (.ref Cn) (.ref Cm) = some false
  nn : PySem.W.exmOne K (.ref Cn) (.ref Cn) = some true
def errV (its : List Item) (n : Int) : List V := match checkE its with
  | .bad p => [.str "effect", optV p]
  | .cap c d => [.str "capacity", .int c, .int d]
  | .ok => if 1 ≤ n ∧ n ≤ 2000 then [.str "none"] else [.str "integer"]
section
variable {P : Program} {w : World} {K : PySem.W.Frag} {mg : Str → Option Value} {base : Heap}
def spErr (K : PySem.W.Frag) (C : Addr) : Sp := fun vs H Q _ => ∃ (l : Addr) (n : Int) (xs : List V) (its : List Item), vs = [.ref l, .int n] ∧ H l = some (.lst xs) ∧ ItemsAt K C H xs its ∧ (its.length = 0 ∨ its.length = 2 ∨ its.length = 3) ∧
  (checkE its = .ok → 1 ≤ n ∧ n ≤ 2000 → ∃ c G m F, its = itms c G ∧ 1 ≤ c ∧ c ≤ 100 ∧ G ≠ [] ∧ n = ((m : Nat) : Int) ∧ genR c G m = some F) ∧ ∀ H' l', Ext H H' → H l' = none → H' l' = some (.lst (errV its n)) → Q (.ref l') H'
theorem scErr : FnScope ["_law_values", "_law_bound", "e"] ["_law_values", "_law_bound"] (defScope sErr) := ⟨rfl, rfl, rfl, by decide +kernel, rfl, by decide +kernel, by decide +kernel⟩
def tbE (K : PySem.W.Frag) (C Ci Cm Cn CL : Addr) (W : WX) : TS :=
  tIfS (tTest (tOp (rEqQ K) (tVar 0) (tLst tNil))) (tDrop (tGenK K C Ci Cm Cn CL (WE W) tNil (tVar 1)))
    (tIfS (tLenEq K 0 2) (tDrop (tGenK K C Ci Cm Cn CL (WE W) (tCons (tIxL K 0 0) (tCons (tIxL K 0 1) tNil)) (tVar 1)))
      (tDrop (tGenK K C Ci Cm Cn CL (WE W) (tCons (tIxL K 0 0) (tCons (tIxL K 0 1) (tCons (tIxL K 0 2) tNil))) (tVar 1))))
def clsE (Ci Cm Cn : Addr) : List Clause :=
  [(.ref Ci, some 2, fun a cls d => tRet (tLst (tCons (tC (.str "effect")) (tCons (tXf a cls d Ci "position" (tVar 2)) tNil)))),
   (.ref Cm, some 2, fun a cls d => tRet (tLst (tCons (tC (.str "capacity")) (tCons (tXf a cls d Cm "first" (tVar 2)) (tCons (tXf a cls d Cm "second" (tVar 2)) tNil))))),
   (.ref Cn, none, fun _ _ _ => tRet (tLst (tCons (tC (.str "integer")) tNil)))]
theorem ok_err (F : Df K mg "_law_error" sErr) (B : Nb mg) {C : Addr} (FG : GenD K mg) {CL : Addr} (XI : xInvE K mg) (XM : xCapM K mg) (XN : ExN K mg "InvalidInteger") (GG : GenR P w K mg base 8 FG.f C XI.C XM.C XN.C CL) (M : ExmF K XI.C XM.C XN.C)
    (np : PySem.W.findIn K (.ref XI.C) "position" = some none) (n1 : PySem.W.findIn K (.ref XM.C) "first" = some none) (n2 : PySem.W.findIn K (.ref XM.C) "second" = some none) : FnOk P w K mg base CX0 9 F.f F.fd ["_law_values", "_law_bound"] (spErr K C) := by
  refine F.F.ok scErr (fun vs H Q E h => ?_) (fun cdv A outer s H vs Q E hr h => ?_)
  · obtain ⟨l, n, xs, its, rfl, _⟩ := h
    rfl
  · obtain ⟨l, n, xs, its, rfl, hx, hI, hlen, hgen, k⟩ := h
    have hu := hr.units0
    refine ⟨_, pss_cons (ps_try_mix (l := clsE XI.C XM.C XN.C) (tb := tbE K C XI.C XM.C XN.C CL) (Wout := fun _ _ _ _ => False) rfl rfl takes0
      (fun W pn xe tk _ => pss_one (ps_if (pt_cmpR (op_eqQ hu) (pv 0) (pe_lst pa_nil) (nomark _)) (pss_one (ps_expr (pe_genK0 GG hr (by rfl) FG.m FG.kp (fun σ => passAt tk σ) (pv 1))))
        (pss_one (ps_if (pt_cmpR op_eq (q_len (pv 0) B) pe_int (nomark _)) (pss_one (ps_expr (pe_genK GG hr (by rfl) FG.m FG.kp (fun σ => passAt tk σ) (pa_cons (pe_ix ix_list (pv 0) pe_int (fun _ _ => rfl)) (pa_cons (pe_ix ix_list (pv 0) pe_int (fun _ _ => rfl)) pa_nil)) (pv 1))))
          (pss_one (ps_expr (pe_genK GG hr (by rfl) FG.m FG.kp (fun σ => passAt tk σ) (pa_cons (pe_ix ix_list (pv 0) pe_int (fun _ _ => rfl)) (pa_cons (pe_ix ix_list (pv 0) pe_int (fun _ _ => rfl)) (pa_cons (pe_ix ix_list (pv 0) pe_int (fun _ _ => rfl)) pa_nil))) (pv 1))))))))
      (.named scErr.nd rfl rfl ⟨rfl, by decide, Or.inl XI.m⟩ (fun a oe cls d pn hz hf => pss_one (ps_ret (pe_lst (pa_cons pe_str (pa_cons (pe_xf XI.xf np hz hf (pv 2)) pa_nil)))))
      (.named scErr.nd rfl rfl ⟨rfl, by decide, Or.inl XM.m⟩ (fun a oe cls d pn hz hf => pss_one (ps_ret (pe_lst (pa_cons pe_str (pa_cons (pe_xf XM.xf n1 hz hf (pv 2)) (pa_cons (pe_xf XM.xf n2 hz hf (pv 2)) pa_nil))))))
      (.bare ⟨rfl, by decide, Or.inl XN.m⟩ (fun a oe cls d pn hz hf => pss_one (ps_ret (pe_lst (pa_cons pe_str pa_nil)))) .nil))))
      (pss_one (ps_ret (pe_lst (pa_cons pe_str pa_nil)))), ?_⟩
    have hl := hI.len
    have one : 1 ≤ sizeLine := by rw [sizeLine_eq]; decide
    have main : ∀ (H1 : Hp) (vs : List V), Ext H H1 → vs = xs → spGen K C XI.C XM.C XN.C CL n vs H1 (fun _ H' => tRet (tLst (tCons (tC (.str "none")) tNil)) { nx := fun _ H' => Q .non H', rt := Q } (L2.start ["_law_values", "_law_bound", "e"] [.ref l, .int n]) H')
        (WE (wMix K (fun _ _ _ _ => False) { nx := tRet (tLst (tCons (tC (.str "none")) tNil)) { nx := fun _ H' => Q .non H', rt := Q }, rt := Q } (clsE XI.C XM.C XN.C)) (L2.start ["_law_values", "_law_bound", "e"] [.ref l, .int n])) := by
      rintro H1 vs e1 rfl
      refine ⟨its, hI.ext e1, by omega, ?_⟩
      have hv : ∀ xs', errV its n = xs' → ∀ H' l', Ext H H' → H' l' = none → Q (.ref l') (upd H' l' (.lst xs')) := fun xs' e H' l' x hl' => by
        subst e
        refine k _ l' (x.trans (Ext.upd hl')) ?_ upd_same
        cases z : H l' with
        | none => rfl
        | some o => have := x _ _ z; rw [hl'] at this; cases this
      cases hc : checkE its with
      | bad p =>
        intro d H' ed
        refine ⟨true, M.ii, fun _ a ha => ?_, fun z => nomatch z⟩
        refine ⟨_, rfl, rfl, rfl, d, _, _, rfl, ed.2.2, rfl, (by show 2 ≤ sizeLine; rw [sizeLine_eq]; decide), fun l' hl' => ?_⟩
        exact hv _ (by unfold errV; rw [hc]) H' l' (e1.trans ed.1) hl'
      | cap c d =>
        intro e H' ed
        refine ⟨false, M.ci, (fun z => nomatch z), fun _ => ⟨true, M.cc, fun _ a ha => ?_, fun z => nomatch z⟩⟩
        refine ⟨_, rfl, rfl, rfl, e, _, _, rfl, ed.2.2, rfl, _, rfl, rfl, rfl, e, _, _, rfl, ed.2.2, rfl, (by show 3 ≤ sizeLine; rw [sizeLine_eq]; decide), fun l' hl' => ?_⟩
        exact hv _ (by unfold errV; rw [hc]) H' l' (e1.trans ed.1) hl'
      | ok =>
        refine ⟨fun hn H' x => ?_, fun hn => ?_⟩
        · refine ⟨false, M.ni, (fun z => nomatch z), fun _ => ⟨false, M.nc, (fun z => nomatch z), fun _ => ⟨true, M.nn, fun _ a ha => ?_, fun z => nomatch z⟩⟩⟩
          refine ⟨one, fun l' hl' => ?_⟩
          exact hv _ (by unfold errV; rw [hc]; exact if_neg hn) H' l' (e1.trans x) hl'
        · obtain ⟨c, G, m, F', e2, c1, c2, hG, e3, hg⟩ := hgen hc hn
          refine ⟨c, G, m, e2, c1, c2, hG, e3, ?_⟩
          rw [hg]
          intro H' l0 x _
          refine ⟨one, fun l' hl' => ?_⟩
          exact hv _ (by unfold errV; rw [hc]; exact if_pos hn) H' l' (e1.trans x) hl'
    have zero : 0 ≤ sizeLine := Nat.zero_le _
    match xs, hx, hI, hl, main with
    | [], hx, hI, hl, main =>
      refine ⟨_, rfl, zero, fun q hq => .inl ⟨l, q, [], [], rfl, rfl, SqL.of (Ext.upd hq _ _ hx), SqL.of upd_same, .inr ⟨rfl, rfl, true, rfl, iteT ?_⟩⟩⟩
      exact ⟨_, rfl, n, rfl, main _ _ (Ext.upd hq) rfl⟩
    | [a, b], hx, hI, hl, main =>
      refine ⟨_, rfl, zero, fun q hq => .inl ⟨l, q, [a, b], [], rfl, rfl, SqL.of (Ext.upd hq _ _ hx), SqL.of upd_same, .inl ⟨by simp, false, rfl, iteF ?_⟩⟩⟩
      have hx' := Ext.upd (o := HO.lst []) hq _ _ hx
      refine ⟨_, rfl, l, _, rfl, .inl (SqL.of hx'), rfl, true, rfl, iteT ?_⟩
      exact ⟨_, rfl, l, _, 0, a, rfl, rfl, SqL.of hx', rfl, _, rfl, l, _, 1, b, rfl, rfl, SqL.of hx', rfl, _, rfl, n, rfl, main _ _ (Ext.upd hq) rfl⟩
    | [a, b, d], hx, hI, hl, main =>
      refine ⟨_, rfl, zero, fun q hq => .inl ⟨l, q, [a, b, d], [], rfl, rfl, SqL.of (Ext.upd hq _ _ hx), SqL.of upd_same, .inl ⟨by simp, false, rfl, iteF ?_⟩⟩⟩
      have hx' := Ext.upd (o := HO.lst []) hq _ _ hx
      refine ⟨_, rfl, l, _, rfl, .inl (SqL.of hx'), rfl, false, rfl, iteF ?_⟩
      exact ⟨_, rfl, l, _, 0, a, rfl, rfl, SqL.of hx', rfl, _, rfl, l, _, 1, b, rfl, rfl, SqL.of hx', rfl, _, rfl, l, _, 2, d, rfl, rfl, SqL.of hx', rfl, _, rfl, n, rfl, main _ _ (Ext.upd hq) rfl⟩
    | [_], _, _, hl, _ => simp at hl; omega
    | _ :: _ :: _ :: _ :: _, _, _, hl, _ => simp at hl; omega
end
end K30
set_option maxHeartbeats 4000000
namespace K30
open PySem L2
/-! ### plain mathematics: what generated gives -/
/-- first difference, else the shorter -/
def llt : List Nat → List Nat → Bool
  | [], [] => false
  | [], _ :: _ => true
  | _ :: _, [] => false
  | x :: xs, y :: ys => if x = y then llt xs ys else decide (x < y)
/-- by length, then by the first difference -/
def slt (u v : List Nat) : Bool := if u.length = v.length then llt u v else decide (u.length < v.length)
def sle (u v : List Nat) : Prop := u = v ∨ slt u v = true
theorem llt_irrefl : ∀ u : List Nat, llt u u = false
  | [] => rfl
  | x :: xs => by rw [llt, if_pos rfl]; exact llt_irrefl xs
theorem llt_trans : ∀ {u v t : List Nat}, llt u v = true → llt v t = true → llt u t = true
  | [], [], _, h, _ => by cases h
  | [], _ :: _, [], _, h => by cases h
  | [], _ :: _, _ :: _, _, _ => rfl
  | _ :: _, [], _, h, _ => by cases h
  | _ :: _, _ :: _, [], _, h => by cases h
  | x :: xs, y :: ys, z :: zs, h1, h2 => by
    rw [llt] at h1 h2 ⊢
    by_cases a : x = y
    · subst a
      rw [if_pos rfl] at h1
      by_cases b : x = z
      · rw [if_pos b] at h2 ⊢
        exact llt_trans h1 h2
      · rw [if_neg b] at h2 ⊢
        exact h2
    · rw [if_neg a] at h1
      have h1 := of_decide_eq_true h1
      by_cases b : y = z
      · subst b
        rw [if_neg a]
        exact decide_eq_true h1
      · rw [if_neg b] at h2
        have h2 := of_decide_eq_true h2
        rw [if_neg (by omega)]
        exact decide_eq_true (by omega)
theorem llt_app : ∀ {u v : List Nat} {a b : Nat}, u.length = v.length → llt u v = true → llt (u ++ [a]) (v ++ [b]) = true
  | [], [], _, _, _, h => by cases h
  | [], _ :: _, _, _, h, _ => by cases h
  | _ :: _, [], _, _, h, _ => by cases h
  | x :: xs, y :: ys, a, b, hl, h => by
    rw [llt] at h
    show llt (x :: (xs ++ [a])) (y :: (ys ++ [b])) = true
    rw [llt]
    by_cases c : x = y
    · rw [if_pos c] at h ⊢
      exact llt_app (Nat.succ.inj hl) h
    · rw [if_neg c] at h ⊢
      exact h
theorem llt_last : ∀ (u : List Nat) {a b : Nat}, a < b → llt (u ++ [a]) (u ++ [b]) = true
  | [], a, b, h => by
    show (if a = b then llt [] [] else decide (a < b)) = true
    rw [if_neg (by omega)]
    exact decide_eq_true h
  | x :: xs, a, b, h => by
    show (if x = x then llt (xs ++ [a]) (xs ++ [b]) else _) = true
    rw [if_pos rfl]
    exact llt_last xs h
theorem slt_irrefl (u : List Nat) : slt u u = false := by
  unfold slt
  rw [if_pos rfl]
  exact llt_irrefl u
theorem slt_trans {u v t : List Nat} (h1 : slt u v = true) (h2 : slt v t = true) : slt u t = true := by
  unfold slt at *
  by_cases a : u.length = v.length
  · rw [if_pos a] at h1
    by_cases b : v.length = t.length
    · rw [if_pos b] at h2
      rw [if_pos (a.trans b)]
      exact llt_trans h1 h2
    · rw [if_neg b] at h2
      have h2 := of_decide_eq_true h2
      rw [if_neg (by omega)]
      exact decide_eq_true (by omega)
  · rw [if_neg a] at h1
    have h1 := of_decide_eq_true h1
    by_cases b : v.length = t.length
    · rw [if_neg (by omega)]
      exact decide_eq_true (by omega)
    · rw [if_neg b] at h2
      have h2 := of_decide_eq_true h2
      rw [if_neg (by omega)]
      exact decide_eq_true (by omega)
theorem slt_snoc {u v : List Nat} {a b : Nat} (h : slt u v = true) : slt (u ++ [a]) (v ++ [b]) = true := by
  unfold slt at *
  rw [List.length_append, List.length_append]
  by_cases c : u.length = v.length
  · rw [if_pos c] at h
    rw [if_pos (by show u.length + 1 = v.length + 1; omega)]
    exact llt_app c h
  · rw [if_neg c] at h
    have h := of_decide_eq_true h
    rw [if_neg (by show ¬ u.length + 1 = v.length + 1; omega)]
    exact decide_eq_true (by show u.length + 1 < v.length + 1; omega)
theorem slt_last (u : List Nat) {a b : Nat} (h : a < b) : slt (u ++ [a]) (u ++ [b]) = true := by
  unfold slt
  rw [if_pos (by rw [List.length_append, List.length_append]; rfl)]
  exact llt_last u h
theorem slt_more (u : List Nat) (a : Nat) : slt u (u ++ [a]) = true := by
  unfold slt
  rw [List.length_append, if_neg (by show ¬ u.length = u.length + 1; omega)]
  exact decide_eq_true (by show u.length < u.length + 1; omega)
theorem slt_asymm {u v : List Nat} (h : slt u v = true) : slt v u = false := by
  cases q : slt v u with
  | false => rfl
  | true => have := slt_trans h q; rw [slt_irrefl] at this; cases this
theorem sle_not {u v : List Nat} (h : sle u v) : slt v u = false := by
  rcases h with h | h
  · rw [h]; exact slt_irrefl v
  · exact slt_asymm h
theorem sle_snoc {u v : List Nat} {a : Nat} (h : sle u v) : sle (u ++ [a]) (v ++ [a]) := by
  rcases h with h | h
  · exact .inl (by rw [h])
  · exact .inr (slt_snoc h)
theorem sle_trans {u v t : List Nat} (h1 : sle u v) (h2 : sle v t) : sle u t := by
  rcases h1 with h1 | h1
  · rw [h1]; exact h2
  · rcases h2 with h2 | h2
    · rw [← h2]; exact .inr h1
    · exact .inr (slt_trans h1 h2)
/-! ### products -/
def prodI (c : Nat) (G : List (List Row)) (is : List Nat) : List Row := is.foldl (fun A i => jrows A (G.getD i [])) (idRows c)
theorem getD_of {G : List (List Row)} {i : Nat} {g : List Row} (h : G[i]? = some g) : G.getD i [] = g := by
  rw [List.getD_eq_getElem?_getD, h]
  rfl
theorem prodI_snoc {c : Nat} {G : List (List Row)} {u : List Nat} {i : Nat} {g : List Row} (h : G[i]? = some g) : prodI c G (u ++ [i]) = jrows (prodI c G u) g := by
  unfold prodI
  rw [List.foldl_append]
  show jrows _ (G.getD i []) = _
  rw [getD_of h]
/-! ### the search keeps -/
structure BI (c : Nat) (G : List (List Row)) (i : Nat) (F : List Pr) : Prop where
  hd : F[0]? = some (idRows c, [])
  nd : (F.map (·.1)).Nodup
  pr : ∀ e ∈ F, prodI c G e.2 = e.1 ∧ ∀ j ∈ e.2, j < G.length
  so : F.Pairwise fun e f => slt e.2 f.2 = true
  nx : ∀ x ∈ F, ∀ e ∈ F.drop i, ∀ j, slt x.2 (e.2 ++ [j]) = true
  cl : ∀ p < i, ∀ e, F[p]? = some e → ∀ j g, G[j]? = some g → ∃ f ∈ F, f.1 = jrows e.1 g ∧ sle f.2 (e.2 ++ [j])
structure BJ (c : Nat) (G : List (List Row)) (i : Nat) (e : Pr) (j0 : Nat) (F : List Pr) : Prop where
  hd : F[0]? = some (idRows c, [])
  nd : (F.map (·.1)).Nodup
  pr : ∀ e ∈ F, prodI c G e.2 = e.1 ∧ ∀ j ∈ e.2, j < G.length
  so : F.Pairwise fun e f => slt e.2 f.2 = true
  nx : ∀ x ∈ F, ∀ f ∈ F.drop (i + 1), ∀ j, slt x.2 (f.2 ++ [j]) = true
  n0 : ∀ x ∈ F, ∀ j, j0 ≤ j → slt x.2 (e.2 ++ [j]) = true
  cl : ∀ p < i, ∀ e, F[p]? = some e → ∀ j g, G[j]? = some g → ∃ f ∈ F, f.1 = jrows e.1 g ∧ sle f.2 (e.2 ++ [j])
  c0 : ∀ j < j0, ∀ g, G[j]? = some g → ∃ f ∈ F, f.1 = jrows e.1 g ∧ sle f.2 (e.2 ++ [j])
  at_ : F[i]? = some e
theorem BI.start {c : Nat} {G : List (List Row)} : BI c G 0 [(idRows c, [])] := by
  refine ⟨rfl, by simp, fun e he => ?_, by simp, fun x hx e he j => ?_, fun p hp => absurd hp (Nat.not_lt_zero _)⟩
  · rw [List.mem_singleton.mp he]
    exact ⟨rfl, fun j hj => nomatch hj⟩
  · rw [List.mem_singleton.mp hx, List.mem_singleton.mp he]
    exact slt_more [] j
theorem BI.to {c : Nat} {G : List (List Row)} {i : Nat} {F : List Pr} {e : Pr} (B : BI c G i F) (h : F[i]? = some e) : BJ c G i e 0 F :=
  ⟨B.hd, B.nd, B.pr, B.so, fun x hx f hf => B.nx x hx f (by rw [drop_at h]; exact List.mem_cons_of_mem _ hf), fun x hx j _ => B.nx x hx e (by rw [drop_at h]; exact List.mem_cons_self ..) j, B.cl, fun j hj => absurd hj (Nat.not_lt_zero _), h⟩
theorem BJ.to {c : Nat} {G : List (List Row)} {i : Nat} {F : List Pr} {e : Pr} (B : BJ c G i e G.length F) : BI c G (i + 1) F := by
  refine ⟨B.hd, B.nd, B.pr, B.so, B.nx, fun p hp f hf j g hg => ?_⟩
  by_cases q : p = i
  · subst q
    rw [B.at_] at hf
    cases hf
    exact B.c0 j (List.getElem?_eq_some_iff.mp hg).1 g hg
  · exact B.cl p (by omega) f hf j g hg
theorem pairwise_at {α : Type} {r : α → α → Prop} : ∀ {l : List α} {i : Nat} {x y : α}, l.Pairwise r → l[i]? = some x → y ∈ l.drop (i + 1) → r x y
  | [], i, x, y, _, h, _ => by simp at h
  | a :: l, 0, x, y, p, h, hy => by
    cases h
    exact (List.pairwise_cons.mp p).1 y hy
  | a :: l, i + 1, x, y, p, h, hy => pairwise_at (List.pairwise_cons.mp p).2 h hy
theorem BJ.step {c : Nat} {G : List (List Row)} {i : Nat} {F : List Pr} {e : Pr} {j0 : Nat} {g : List Row} (B : BJ c G i e j0 F) (hg : G[j0]? = some g) : BJ c G i e (j0 + 1) (gins e F (g, j0)) := by
  unfold gins
  by_cases hm : jrows e.1 g ∈ F.map (·.1)
  · rw [if_pos hm]
    refine ⟨B.hd, B.nd, B.pr, B.so, B.nx, fun x hx j hj => B.n0 x hx j (by omega), B.cl, fun j hj g' hg' => ?_, B.at_⟩
    by_cases q : j = j0
    · subst q
      rw [hg] at hg'
      cases hg'
      obtain ⟨f, hf, ef⟩ := List.mem_map.mp hm
      exact ⟨f, hf, ef, .inr (B.n0 f hf j (Nat.le_refl _))⟩
    · exact B.c0 j (by omega) g' hg'
  · rw [if_neg hm]
    have hi : i < F.length := (List.getElem?_eq_some_iff.mp B.at_).1
    have hj0 : j0 < G.length := (List.getElem?_eq_some_iff.mp hg).1
    have he : e ∈ F := List.mem_of_getElem? B.at_
    have hdrop : (F ++ [(jrows e.1 g, e.2 ++ [j0])]).drop (i + 1) = F.drop (i + 1) ++ [(jrows e.1 g, e.2 ++ [j0])] := List.drop_append_of_le_length hi
    refine ⟨?_, ?_, ?_, ?_, ?_, ?_, ?_, ?_, ?_⟩
    · rw [List.getElem?_append_left (by omega)]
      exact B.hd
    · rw [List.map_append, List.nodup_append]
      refine ⟨B.nd, by simp, fun a ha b hb => ?_⟩
      rw [List.map_cons, List.map_nil, List.mem_singleton] at hb
      intro z
      rw [z, hb] at ha
      exact hm ha
    · intro x hx
      rcases List.mem_append.mp hx with hx | hx
      · exact B.pr x hx
      · rw [List.mem_singleton.mp hx]
        refine ⟨?_, fun j hj => ?_⟩
        · show prodI c G (e.2 ++ [j0]) = jrows e.1 g
          rw [prodI_snoc hg, (B.pr e he).1]
        · rcases List.mem_append.mp hj with hj | hj
          · exact (B.pr e he).2 j hj
          · rw [List.mem_singleton.mp hj]; exact hj0
    · rw [List.pairwise_append]
      refine ⟨B.so, by simp, fun a ha b hb => ?_⟩
      rw [List.mem_singleton.mp hb]
      exact B.n0 a ha j0 (Nat.le_refl _)
    · intro x hx f hf j
      rw [hdrop] at hf
      rcases List.mem_append.mp hx with hx | hx
      · rcases List.mem_append.mp hf with hf | hf
        · exact B.nx x hx f hf j
        · rw [List.mem_singleton.mp hf]
          exact slt_trans (B.n0 x hx j0 (Nat.le_refl _)) (slt_more _ j)
      · rw [List.mem_singleton.mp hx]
        rcases List.mem_append.mp hf with hf | hf
        · exact slt_snoc (pairwise_at (r := fun (e f : Pr) => slt e.2 f.2 = true) B.so B.at_ hf)
        · rw [List.mem_singleton.mp hf]
          exact slt_more _ j
    · intro x hx j hj
      rcases List.mem_append.mp hx with hx | hx
      · exact B.n0 x hx j (by omega)
      · rw [List.mem_singleton.mp hx]
        exact slt_last e.2 (by omega)
    · intro p hp f hf j g' hg'
      rw [List.getElem?_append_left (by omega)] at hf
      obtain ⟨f', h1, h2⟩ := B.cl p hp f hf j g' hg'
      exact ⟨f', List.mem_append_left _ h1, h2⟩
    · intro j hj g' hg'
      by_cases q : j = j0
      · subst q
        rw [hg] at hg'
        cases hg'
        exact ⟨_, List.mem_append_right _ (List.mem_singleton.mpr rfl), rfl, .inl rfl⟩
      · obtain ⟨f', h1, h2⟩ := B.c0 j (by omega) g' hg'
        exact ⟨f', List.mem_append_left _ h1, h2⟩
    · rw [List.getElem?_append_left hi]
      exact B.at_
theorem BJ.run {c : Nat} {G : List (List Row)} {i : Nat} {e : Pr} : ∀ (gs : List (List Row)) (j0 : Nat) (F : List Pr), BJ c G i e j0 F → (∀ k g, gs[k]? = some g → G[j0 + k]? = some g) → BJ c G i e (j0 + gs.length) ((gs.zipIdx j0).foldl (gins e) F)
  | [], j0, F, B, _ => B
  | g :: gs, j0, F, B, h => by
    have h0 := BJ.step B (h 0 g rfl)
    have h1 := BJ.run gs (j0 + 1) _ h0 (fun k g' e => by
      have := h (k + 1) g' e
      rw [show j0 + 1 + k = j0 + (k + 1) by omega]
      exact this)
    rw [List.length_cons, show j0 + (gs.length + 1) = j0 + 1 + gs.length by omega]
    exact h1
theorem BI.turn {c : Nat} {G : List (List Row)} {i : Nat} {F : List Pr} {e : Pr} (B : BI c G i F) (h : F[i]? = some e) : BI c G (i + 1) (gturn G e F) := by
  have := BJ.run G 0 F (B.to h) (fun k g e => by rw [Nat.zero_add]; exact e)
  rw [Nat.zero_add] at this
  exact this.to
theorem gen_BI {c : Nat} {G : List (List Row)} {most : Nat} : ∀ {n i : Nat} {F R : List Pr}, BI c G i F → gen G most n i F = some R → ∃ i', BI c G i' R ∧ R[i']? = none
  | 0, i, F, R, _, h => by simp [gen] at h
  | n + 1, i, F, R, B, h => by
    rw [gen] at h
    cases q : F[i]? with
    | none =>
      rw [q] at h
      cases h
      exact ⟨i, B, q⟩
    | some e =>
      rw [q] at h
      simp only at h
      by_cases z : most < (gturn G e F).length
      · rw [if_pos z] at h; cases h
      · rw [if_neg z] at h
        exact gen_BI (B.turn q) h
/-- what is known of the whole list -/
structure Whole (c : Nat) (G : List (List Row)) (R : List Pr) : Prop where
  hd : R[0]? = some (idRows c, [])
  nd : (R.map (·.1)).Nodup
  pr : ∀ e ∈ R, prodI c G e.2 = e.1 ∧ ∀ j ∈ e.2, j < G.length
  so : R.Pairwise fun e f => slt e.2 f.2 = true
  cl : ∀ e ∈ R, ∀ j g, G[j]? = some g → ∃ f ∈ R, f.1 = jrows e.1 g ∧ sle f.2 (e.2 ++ [j])
theorem genR_whole {c : Nat} {G : List (List Row)} {most : Nat} {R : List Pr} (h : genR c G most = some R) : Whole c G R := by
  obtain ⟨i, B, hn⟩ := gen_BI BI.start h
  refine ⟨B.hd, B.nd, B.pr, B.so, fun e he j g hg => ?_⟩
  obtain ⟨p, hp, ep⟩ := List.mem_iff_getElem.mp he
  have hi : R.length ≤ i := List.getElem?_eq_none_iff.mp hn
  exact B.cl p (by omega) e (by rw [List.getElem?_eq_getElem hp, ep]) j g hg
/-- every product is there, by indices that are not greater -/
theorem Whole.least {c : Nat} {G : List (List Row)} {R : List Pr} (W : Whole c G R) : ∀ (u : List Nat), (∀ j ∈ u, j < G.length) → ∃ f ∈ R, f.1 = prodI c G u ∧ sle f.2 u := by
  intro u
  generalize hn : u.length = n
  induction n generalizing u with
  | zero =>
    intro _
    have : u = [] := List.length_eq_zero_iff.mp hn
    subst this
    exact ⟨_, List.mem_of_getElem? W.hd, rfl, .inl rfl⟩
  | succ n ih =>
    intro hu
    have hne : u ≠ [] := by intro z; subst z; cases hn
    obtain ⟨v, j, rfl⟩ : ∃ v j, u = v ++ [j] := ⟨u.dropLast, u.getLast hne, (List.dropLast_concat_getLast hne).symm⟩
    rw [List.length_append] at hn
    obtain ⟨f, hf, e1, s1⟩ := ih v (by simpa using hn) (fun k hk => hu k (List.mem_append_left _ hk))
    have hj : j < G.length := hu j (List.mem_append_right _ (List.mem_singleton.mpr rfl))
    have hg : G[j]? = some G[j] := List.getElem?_eq_getElem hj
    obtain ⟨f', hf', e2, s2⟩ := W.cl f hf j _ hg
    exact ⟨f', hf', by rw [e2, e1, prodI_snoc hg], sle_trans s2 (sle_snoc s1)⟩
/-! ### the limit -/
theorem gfold_grow (e : Pr) : ∀ (gs : List (List Row × Nat)) (F : List Pr), F.length ≤ (gs.foldl (gins e) F).length
  | [], F => Nat.le_refl _
  | g :: gs, F => by
    refine Nat.le_trans ?_ (gfold_grow e gs _)
    unfold gins
    split
    · exact Nat.le_refl _
    · rw [List.length_append]; exact Nat.le_add_right _ _
theorem gen_grow {G : List (List Row)} {most : Nat} : ∀ {n i : Nat} {F R : List Pr}, gen G most n i F = some R → F.length ≤ R.length
  | 0, i, F, R, h => by simp [gen] at h
  | n + 1, i, F, R, h => by
    rw [gen] at h
    cases q : F[i]? with
    | none => rw [q] at h; cases h; exact Nat.le_refl _
    | some e =>
      rw [q] at h
      simp only at h
      by_cases z : most < (gturn G e F).length
      · rw [if_pos z] at h; cases h
      · rw [if_neg z] at h
        exact Nat.le_trans (gfold_grow e _ _) (gen_grow h)
theorem gen_fits {G : List (List Row)} {most m : Nat} : ∀ {n n' i : Nat} {F R : List Pr}, gen G most n i F = some R → R.length ≤ m → i ≤ F.length → R.length + 1 ≤ n' + i → gen G m n' i F = some R
  | 0, n', i, F, R, h, _, _, _ => by simp [gen] at h
  | n + 1, 0, i, F, R, h, h1, h2, h3 => by
    have := gen_grow h
    omega
  | n + 1, n' + 1, i, F, R, h, h1, h2, h3 => by
    rw [gen] at h ⊢
    cases q : F[i]? with
    | none => rw [q] at h; exact h
    | some e =>
      rw [q] at h
      simp only at h ⊢
      by_cases z : most < (gturn G e F).length
      · rw [if_pos z] at h; cases h
      · rw [if_neg z] at h
        have g1 := gen_grow h
        have g2 : F.length ≤ (gturn G e F).length := gfold_grow e _ _
        have g3 := (List.getElem?_eq_some_iff.mp q).1
        rw [if_neg (by omega)]
        exact gen_fits h h1 (by omega) (by omega)
theorem gen_over {G : List (List Row)} {most m : Nat} : ∀ {n n' i : Nat} {F R : List Pr}, gen G most n i F = some R → m < R.length → F.length ≤ m → gen G m n' i F = none
  | _, 0, _, _, _, _, _, _ => rfl
  | 0, n' + 1, i, F, R, h, _, _ => by simp [gen] at h
  | n + 1, n' + 1, i, F, R, h, h1, h2 => by
    rw [gen] at h ⊢
    cases q : F[i]? with
    | none => rw [q] at h; cases h; omega
    | some e =>
      rw [q] at h
      simp only at h ⊢
      by_cases z : most < (gturn G e F).length
      · rw [if_pos z] at h; cases h
      · rw [if_neg z] at h
        by_cases y : m < (gturn G e F).length
        · rw [if_pos y]
        · rw [if_neg y]
          exact gen_over h h1 (by omega)
theorem genR_fits {c : Nat} {G : List (List Row)} {most : Nat} {R : List Pr} (h : genR c G most = some R) : genR c G R.length = some R :=
  gen_fits h (Nat.le_refl _) (Nat.zero_le _) (by omega)
theorem genR_over {c : Nat} {G : List (List Row)} {most : Nat} {R : List Pr} (h : genR c G most = some R) (h1 : 1 < R.length) : genR c G (R.length - 1) = none :=
  gen_over h (by omega) (by simp; omega)
theorem gen_most {G : List (List Row)} {most : Nat} : ∀ {n i : Nat} {F R : List Pr}, gen G most n i F = some R → F.length ≤ most → R.length ≤ most
  | 0, i, F, R, h, _ => by simp [gen] at h
  | n + 1, i, F, R, h, h1 => by
    rw [gen] at h
    cases q : F[i]? with
    | none => rw [q] at h; cases h; exact h1
    | some e =>
      rw [q] at h
      simp only at h
      by_cases z : most < (gturn G e F).length
      · rw [if_pos z] at h; cases h
      · rw [if_neg z] at h
        exact gen_most h (by omega)
theorem genR_most {c : Nat} {G : List (List Row)} {most : Nat} {R : List Pr} (h : genR c G most = some R) (h1 : 1 ≤ most) : 1 ≤ R.length ∧ R.length ≤ most := by
  have := gen_grow h
  exact ⟨this, gen_most h h1⟩
/-! ### the keys as data -/
def keyD (u : List Nat) : PyData := .tuple [.int (u.length : Int), idxD u]
theorem listLt_nat : ∀ u v : List Nat, PySem.W.listLt (u.map fun i : Nat => (i : Int)) (v.map fun i : Nat => (i : Int)) = llt u v
  | [], [] => rfl
  | [], _ :: _ => rfl
  | _ :: _, [] => rfl
  | x :: xs, y :: ys => by
    rw [List.map_cons, List.map_cons, PySem.W.listLt, llt, listLt_nat xs ys]
    by_cases c : x = y
    · rw [if_pos c, if_pos (by rw [c])]
    · rw [if_neg c, if_neg (by omega)]
      show decide ((x : Int) < (y : Int)) = decide (x < y)
      exact decide_eq_decide.mpr (by omega)
theorem keyD_lt (u v : List Nat) : PySem.W.dataLt (keyD u) (keyD v) = slt u v := by
  have h := PySem.W.DatumOrd.lt_eq (α := Int × PySem.W.Tup Int) ((u.length : Int), ⟨u.map fun i : Nat => (i : Int)⟩) ((v.length : Int), ⟨v.map fun i : Nat => (i : Int)⟩)
  have e : ∀ u : List Nat, PySem.W.Datum.toD (((u.length : Int), ⟨u.map fun i : Nat => (i : Int)⟩) : Int × PySem.W.Tup Int) = keyD u := fun u => by
    show PyData.tuple [PyData.int (u.length : Int), PyData.tuple ((u.map fun i : Nat => (i : Int)).map PySem.W.Datum.toD)] = _
    rw [List.map_map]
    rfl
  rw [e, e] at h
  rw [h]
  show (if (u.length : Int) = (v.length : Int) then PySem.W.listLt _ _ else decide ((u.length : Int) < (v.length : Int))) = _
  unfold slt
  by_cases c : u.length = v.length
  · rw [if_pos c, if_pos (by rw [c])]
    exact listLt_nat u v
  · rw [if_neg c, if_neg (by omega)]
    exact decide_eq_decide.mpr (by omega)
theorem keyD_alike (u v : List Nat) : PySem.W.alike (keyD u) (keyD v) = true := by
  have h := PySem.W.DatumOrd.alike (α := Int × PySem.W.Tup Int) ((u.length : Int), ⟨u.map fun i : Nat => (i : Int)⟩) ((v.length : Int), ⟨v.map fun i : Nat => (i : Int)⟩)
  have e : ∀ u : List Nat, PySem.W.Datum.toD (((u.length : Int), ⟨u.map fun i : Nat => (i : Int)⟩) : Int × PySem.W.Tup Int) = keyD u := fun u => by
    show PyData.tuple [PyData.int (u.length : Int), PyData.tuple ((u.map fun i : Nat => (i : Int)).map PySem.W.Datum.toD)] = _
    rw [List.map_map]
    rfl
  rw [e, e] at h
  exact h
end K30
set_option maxHeartbeats 4000000
namespace K30
open PySem L2
def abz : List Nat := [97, 98, 45]
def words3 : List (List Nat) := (abz.map fun a => [a]) ++ (abz.flatMap fun a => abz.map fun b => [a, b]) ++ (abz.flatMap fun a => abz.flatMap fun b => abz.map fun d => [a, b, d])
theorem words3_mem {z : List Nat} (h : ∀ c ∈ z, c ∈ abz) (h1 : 1 ≤ z.length) (h3 : z.length ≤ 3) : z ∈ words3 := by
  unfold words3
  match z, h, h1, h3 with
  | [a], h, _, _ => exact List.mem_append_left _ (List.mem_append_left _ (List.mem_map.mpr ⟨a, h a (by simp), rfl⟩))
  | [a, b], h, _, _ => exact List.mem_append_left _ (List.mem_append_right _ (List.mem_flatMap.mpr ⟨a, h a (by simp), List.mem_map.mpr ⟨b, h b (by simp), rfl⟩⟩))
  | [a, b, d], h, _, _ => exact List.mem_append_right _ (List.mem_flatMap.mpr ⟨a, h a (by simp), List.mem_flatMap.mpr ⟨b, h b (by simp), List.mem_map.mpr ⟨d, h d (by simp), rfl⟩⟩⟩)
  | [], _, h1, _ => exact absurd h1 (by decide)
  | _ :: _ :: _ :: _ :: _, _, _, h3 => simp at h3
theorem single_all : ∀ z ∈ words3, ∀ m : Fin 3, ∀ c : Fin 2, (genR (c.val + 1) [wordRows (c.val + 1) m.val z] 400).isSome = true := by decide +kernel
/-! ### letters a and b only -/
def okAB (R : List Row) : Prop := ∀ k w, some (k, w) ∈ R → ∀ x ∈ w, x = 97 ∨ x = 98
theorem jrows_ab {A B : List Row} (hA : okAB A) (hB : okAB B) : okAB (jrows A B) := by
  intro k w h x hx
  obtain ⟨r, hr, e⟩ := List.mem_map.mp h
  match r, hr, e with
  | none, _, e => cases e
  | some (j, v), hr, e =>
    cases q : B[j + v.length]? with
    | none => simp only [jrow, q] at e; cases e
    | some o =>
      cases o with
      | none => simp only [jrow, q] at e; cases e
      | some p =>
        obtain ⟨a, y⟩ := p
        simp only [jrow, q] at e
        have hy := hB a y (List.mem_of_getElem? q)
        have hv := hA j v hr
        by_cases c : a ≤ v.length
        · rw [if_pos c] at e
          cases e
          rcases List.mem_append.mp hx with hx | hx
          · exact hv x (List.mem_of_mem_drop hx)
          · exact hy x hx
        · rw [if_neg c] at e
          cases e
          rcases List.mem_append.mp hx with hx | hx
          · exact hv x hx
          · exact hy x hx
theorem idRows_ab (c : Nat) : okAB (idRows c) := by
  intro k w h x hx
  obtain ⟨l, _, e⟩ := List.mem_map.mp h
  cases e
  cases hx
theorem rafter_ab {cap m c : Nat} {R : List Row} (hc : c ∈ abz) (h : okAB R) : okAB (R.map (rafter cap m c)) := by
  intro k w hk x hx
  obtain ⟨r, hr, e⟩ := List.mem_map.mp hk
  match r, hr, e with
  | none, _, e => cases e
  | some (j, v), hr, e =>
    have hv := h j v hr
    have hd : ∀ x ∈ v.drop 1, x = 97 ∨ x = 98 := fun x hx => hv x (List.mem_of_mem_drop hx)
    simp only [rafter] at e
    by_cases c1 : c = 45
    · rw [if_pos c1] at e
      split at e
      · cases e
      · split at e
        · cases e; exact hv x hx
        · cases e; exact hd x hx
    · rw [if_neg c1] at e
      have hc' : c = 97 ∨ c = 98 := by
        simp [abz] at hc
        omega
      have snoc : ∀ {u : List Nat}, (∀ x ∈ u, x = 97 ∨ x = 98) → ∀ x ∈ u ++ [c], x = 97 ∨ x = 98 := fun hu x hx => by
        rcases List.mem_append.mp hx with hx | hx
        · exact hu x hx
        · rw [List.mem_singleton.mp hx]; exact hc'
      split at e
      · cases e; exact snoc hv x hx
      · split at e
        · split at e
          · cases e; exact snoc hv x hx
          · cases e; exact snoc hd x hx
        · split at e
          · cases e; exact hv x hx
          · cases e
theorem foldRows_ab {cap m : Nat} : ∀ (z : List Nat) (R : List Row), (∀ c ∈ z, c ∈ abz) → okAB R → okAB (z.foldl (fun R c => R.map (rafter cap m c)) R)
  | [], _, _, h => h
  | c :: z, R, hz, h => foldRows_ab z _ (fun x hx => hz x (List.mem_cons_of_mem _ hx)) (rafter_ab (hz c (List.mem_cons_self ..)) h)
theorem wordRows_ab {cap m : Nat} {z : List Nat} (hz : ∀ c ∈ z, c ∈ abz) : okAB (wordRows cap m z) := foldRows_ab z _ hz (idRows_ab cap)
theorem prodI_ab {c : Nat} {G : List (List Row)} (hG : ∀ R ∈ G, okAB R) : ∀ (is : List Nat) (A : List Row), (∀ i ∈ is, i < G.length) → okAB A → okAB (is.foldl (fun A i => jrows A (G.getD i [])) A)
  | [], _, _, h => h
  | i :: is, A, hi, h => by
    have hil := hi i (List.mem_cons_self ..)
    refine prodI_ab (c := c) hG is _ (fun j hj => hi j (List.mem_cons_of_mem _ hj)) (jrows_ab h ?_)
    rw [getD_of (List.getElem?_eq_getElem hil)]
    exact hG _ (List.getElem_mem hil)
/-! ### the texts of such rows -/
def rowsL : List Row := [none, some (0, []), some (1, []), some (2, []), some (0, [97]), some (0, [98]), some (1, [97]), some (1, [98]), some (0, [97, 97]), some (0, [97, 98]), some (0, [98, 97]), some (0, [98, 98])]
theorem rowsL_mem {n : Nat} {r : Row} (h : okRow n 2 r) (ab : ∀ k w, r = some (k, w) → ∀ x ∈ w, x = 97 ∨ x = 98) : r ∈ rowsL := by
  match r, h, ab with
  | none, _, _ => exact List.mem_cons_self ..
  | some (k, w), h, ab =>
    obtain ⟨_, _, h3⟩ := h k w rfl
    have ab := ab k w rfl
    match w, h3, ab with
    | [], h3, _ =>
      have : k = 0 ∨ k = 1 ∨ k = 2 := by simp at h3; omega
      rcases this with rfl | rfl | rfl <;> decide
    | [x], h3, ab =>
      have hk : k = 0 ∨ k = 1 := by simp at h3; omega
      have hx := ab x (by simp)
      rcases hk with rfl | rfl <;> rcases hx with rfl | rfl <;> decide
    | [x, y], h3, ab =>
      have hk : k = 0 := by simp at h3; omega
      have hx := ab x (by simp)
      have hy := ab y (by simp)
      subst hk
      rcases hx with rfl | rfl <;> rcases hy with rfl | rfl <;> decide
    | _ :: _ :: _ :: _, h3, _ => simp at h3; omega
def tx (r : Row) : List Nat := (rowD r).shown.cps.toList
theorem tx_free : ∀ r ∈ rowsL, ∀ s ∈ rowsL, (tx r).isPrefixOf (tx s) = true → r = s := by decide +kernel
theorem tx_len : ∀ r ∈ rowsL, (tx r).length ≤ 9 := by decide +kernel
theorem tx_cut {r s : Row} {x y : List Nat} (hr : r ∈ rowsL) (hs : s ∈ rowsL) (h : tx r ++ x = tx s ++ y) : r = s ∧ x = y := by
  have e : r = s := by
    rcases List.prefix_or_prefix_of_prefix (List.prefix_append (tx r) x) (h ▸ List.prefix_append (tx s) y) with p | p
    · exact tx_free r hr s hs (List.isPrefixOf_iff_prefix.mpr p)
    · exact (tx_free s hs r hr (List.isPrefixOf_iff_prefix.mpr p)).symm
  subst e
  exact ⟨rfl, List.append_cancel_left h⟩
theorem cps_app (a b : Str) : (a ++ b).cps.toList = a.cps.toList ++ b.cps.toList := by
  show (a.cps ++ b.cps).toList = _
  rw [Array.toList_append]
theorem rows2_text (r s : Row) : (rowsD [r, s]).shown.cps.toList = [40] ++ ((tx r ++ [44, 32]) ++ tx s) ++ [41] := by
  unfold rowsD
  show (tupleText [(rowD r).shown, (rowD s).shown]).cps.toList = _
  unfold tupleText
  rw [cps_app, cps_app]
  show _ ++ ((rowD r).shown ++ (", " : Str) ++ (rowD s).shown).cps.toList ++ _ = _
  rw [cps_app, cps_app]
  rfl
theorem rows3_text (r s t : Row) : (rowsD [r, s, t]).shown.cps.toList = [40] ++ ((tx r ++ [44, 32]) ++ ((tx s ++ [44, 32]) ++ tx t)) ++ [41] := by
  unfold rowsD
  show (tupleText [(rowD r).shown, (rowD s).shown, (rowD t).shown]).cps.toList = _
  unfold tupleText
  rw [cps_app, cps_app]
  show _ ++ ((rowD r).shown ++ (", " : Str) ++ ((rowD s).shown ++ (", " : Str) ++ (rowD t).shown)).cps.toList ++ _ = _
  rw [cps_app, cps_app, cps_app, cps_app]
  rfl
theorem ef_cut {c : Nat} {A B : List Row} (h : efText c A = efText c B) : (rowsD A).shown.cps.toList = (rowsD B).shown.cps.toList := by
  have h := congrArg (fun s : Str => s.cps.toList) h
  simp only [efText, cps_app] at h
  exact List.append_cancel_left (List.append_cancel_right h)
theorem list2 {α : Type} : ∀ {l : List α}, l.length = 1 + 1 → ∃ a b, l = [a, b]
  | [a, b], _ => ⟨a, b, rfl⟩
  | [], h => nomatch h
  | [_], h => nomatch h
  | _ :: _ :: _ :: _, h => by simp at h
theorem list3 {α : Type} : ∀ {l : List α}, l.length = 2 + 1 → ∃ a b d, l = [a, b, d]
  | [a, b, d], _ => ⟨a, b, d, rfl⟩
  | [], h => nomatch h
  | [_], h => nomatch h
  | [_, _], h => nomatch h
  | _ :: _ :: _ :: _ :: _, h => by simp at h
theorem inj2 {r s r' s' : Row} (m1 : r ∈ rowsL) (m2 : s ∈ rowsL) (n1 : r' ∈ rowsL) (n2 : s' ∈ rowsL) (h : (rowsD [r, s]).shown.cps.toList = (rowsD [r', s']).shown.cps.toList) : [r, s] = [r', s'] := by
  rw [rows2_text, rows2_text] at h
  have h1 := List.append_cancel_left (List.append_cancel_right h)
  simp only [List.append_assoc] at h1
  obtain ⟨e1, h2⟩ := tx_cut m1 n1 h1
  have h3 := List.append_cancel_left h2
  have h4 : tx s ++ [] = tx s' ++ [] := by rw [h3]
  obtain ⟨e2, _⟩ := tx_cut m2 n2 h4
  rw [e1, e2]
theorem inj3 {r s t r' s' t' : Row} (m1 : r ∈ rowsL) (m2 : s ∈ rowsL) (m3 : t ∈ rowsL) (n1 : r' ∈ rowsL) (n2 : s' ∈ rowsL) (n3 : t' ∈ rowsL) (h : (rowsD [r, s, t]).shown.cps.toList = (rowsD [r', s', t']).shown.cps.toList) : [r, s, t] = [r', s', t'] := by
  rw [rows3_text, rows3_text] at h
  have h1 := List.append_cancel_left (List.append_cancel_right h)
  simp only [List.append_assoc] at h1
  obtain ⟨e1, h2⟩ := tx_cut m1 n1 h1
  have h3 := List.append_cancel_left h2
  obtain ⟨e2, h4⟩ := tx_cut m2 n2 h3
  have h5 := List.append_cancel_left h4
  have h6 : tx t ++ [] = tx t' ++ [] := by rw [h5]
  obtain ⟨e3, _⟩ := tx_cut m3 n3 h6
  rw [e1, e2, e3]
theorem rows_mem {c : Nat} {R : List Row} (hc : c = 1 ∨ c = 2) (o : okRows c R) (a : okAB R) : ∀ r ∈ R, r ∈ rowsL := fun r hr => by
  obtain ⟨i, hi, e⟩ := List.mem_iff_getElem.mp hr
  have o1 := o.2 i r (by rw [List.getElem?_eq_getElem hi, e])
  exact rowsL_mem (n := i) (fun k w e2 => ⟨(o1 k w e2).1, (o1 k w e2).2.1, by have := (o1 k w e2).2.2; omega⟩) fun k w e2 => a k w (e2 ▸ hr)
theorem efText_inj {c : Nat} {A B : List Row} (hc : c = 1 ∨ c = 2) (oA : okRows c A) (oB : okRows c B) (aA : okAB A) (aB : okAB B) (h : efText c A = efText c B) : A = B := by
  have h1 := ef_cut h
  have mA := rows_mem hc oA aA
  have mB := rows_mem hc oB aB
  have lA := oA.1
  have lB := oB.1
  clear h oA oB aA aB
  rcases hc with rfl | rfl
  · obtain ⟨r, s, rfl⟩ := list2 lA
    obtain ⟨r', s', rfl⟩ := list2 lB
    exact inj2 (mA r (by simp)) (mA s (by simp)) (mB r' (by simp)) (mB s' (by simp)) h1
  · obtain ⟨r, s, t, rfl⟩ := list3 lA
    obtain ⟨r', s', t', rfl⟩ := list3 lB
    exact inj3 (mA r (by simp)) (mA s (by simp)) (mA t (by simp)) (mB r' (by simp)) (mB s' (by simp)) (mB t' (by simp)) h1
theorem shown_few {c : Nat} {A : List Row} (hc : c = 1 ∨ c = 2) (oA : okRows c A) (aA : okAB A) : (rowsD A).shown.length ≤ 100 := by
  have mA : ∀ r ∈ A, (tx r).length ≤ 9 := fun r hr => tx_len r (rows_mem hc oA aA r hr)
  have hl : (rowsD A).shown.length = (rowsD A).shown.cps.toList.length := by rw [Array.length_toList]; rfl
  rw [hl]
  have lA := oA.1
  clear oA aA hl
  rcases hc with rfl | rfl
  · obtain ⟨r, s, rfl⟩ := list2 lA
    rw [rows2_text]
    have h1 := mA r (by simp)
    have h2 := mA s (by simp)
    simp only [List.length_append, List.length_cons, List.length_nil]
    omega
  · obtain ⟨r, s, t, rfl⟩ := list3 lA
    rw [rows3_text]
    have h1 := mA r (by simp)
    have h2 := mA s (by simp)
    have h3 := mA t (by simp)
    simp only [List.length_append, List.length_cons, List.length_nil]
    omega
end K30
set_option maxHeartbeats 4000000
namespace K30
open PySem L2
section
variable {P : Program} {w : World} {K : PySem.W.Frag} {mg : Str → Option Value} {base : Heap}
/-! ### the draws -/
def spDraws (K : PySem.W.Frag) : Sp := fun vs H Q _ => ∃ (a : Addr) (ns : List Int) (k : Nat), vs = [.ref a, .int k] ∧ SqL K H a (ns.map V.int) ∧ ns.length ≤ 63 ∧ k ≤ 63 ∧
  ∀ (H' : Hp) (p : Addr) (x y : Int), Ext H H' → H p = none → H' p = some (.lst [.int x, .int y]) → 0 ≤ x → 0 ≤ y → y < 2147483647 → Q (.ref p) H'
theorem scDraws : FnScope ["_law_script", "_law_k", "_law_cell", "_law_seed"] ["_law_script", "_law_k"] (defScope sDraws) := ⟨rfl, rfl, rfl, by decide +kernel, rfl, by decide +kernel, by decide +kernel⟩
theorem ints_can : ∀ ns : List Int, PyData.canLayAll0 (ns.map PyData.int) = true
  | [] => by simp [PyData.canLayAll0]
  | n :: ns => by rw [List.map_cons, PyData.canLayAll0, ints_can ns]; simp [PyData.canLay0]
theorem ints_depth : ∀ ns : List Int, PyData.depthAll (ns.map PyData.int) = 0
  | [] => by simp [PyData.depthAll]
  | n :: ns => by rw [List.map_cons, PyData.depthAll, ints_depth ns]; simp [PyData.depth]
theorem ints_shaped (ns : List Int) : SeqAt.shaped (.list (ns.map PyData.int)) = true := by
  unfold SeqAt.shaped
  rw [PyData.canLay0, ints_can, PyData.depth, ints_depth]
  rfl
theorem ok_draws (F : Df K mg "_law_draws" sDraws) (B : Nb mg) : FnOk P w K mg base CX0 1 F.f F.fd ["_law_script", "_law_k"] (spDraws K) := by
  refine F.F.ok scDraws (fun vs H Q E h => ?_) (fun cdv A outer s H vs Q E hr h => ?_)
  · obtain ⟨a, ns, k, rfl, _⟩ := h
    rfl
  · obtain ⟨a, ns, kk, rfl, hs, hl, hk, k⟩ := h
    refine ⟨_, (pss_cons (ps_set (i := 2) scDraws.nd rfl (Or.inl rfl) pe_int) (pss_cons (ps_if (pt_cmpR (op_neD hr.units) (pv 0) (pe_lst pa_nil) (nomark _)) (pss_one (ps_set (i := 2) scDraws.nd rfl (Or.inl rfl) (pe_ix ix_list (pv 0) (pe_op op_mod (pv 1) (q_len (pv 0) B)) (fun _ _ => rfl)))) pss_nil) (pss_cons (ps_if (pt_cmpR op_ge (pv 1) (q_len (pv 0) B) (nomark _)) (pss_one (ps_set (i := 2) scDraws.nd rfl (Or.inl rfl) (pe_op op_mod (pv 2) pe_int))) pss_nil) (pss_cons (ps_set (i := 3) scDraws.nd rfl (Or.inl rfl) (pe_op op_mod (pe_op op_mul (pe_op op_add (pe_op op_add (pe_op op_mod (pv 2) pe_int) (pe_op op_mul pe_int (pv 1))) pe_int) pe_int) pe_int)) (pss_one (ps_ret (pe_lst (pa_cons (pe_op op_mul (pv 2) (pe_callTy call_int1 (by rfl) B.int b_int (pa_cons (pe_cmpR op_ge (pv 2) (pe_op op_pow pe_int pe_int) (nomark _)) pa_nil))) (pa_cons (pv 3) pa_nil))))))))), ?_⟩
    have two : 2 ≤ sizeLine := by rw [sizeLine_eq]; decide
    -- the end, from the cell
    have fin : ∀ (H1 : Hp) (z : Int), Ext H H1 → ∀ p, H1 p = none → Q (.ref p) (upd H1 p (.lst [.int (z * (if decide ((10 : Int) ^ (18 : Int).toNat ≤ z) = true then 1 else 0)), .int ((z % 2147483629 + 104729 * (kk : Int) + 11) * 48271 % 2147483647)])) := fun H1 z e p hp => by
      refine k _ p _ _ (e.trans (Ext.upd hp)) ?_ upd_same ?_ (Int.emod_nonneg _ (by decide)) (Int.emod_lt_of_pos _ (by decide))
      · cases q : H p with
        | none => rfl
        | some o => have := e _ _ q; rw [hp] at this; cases this
      · by_cases c : (10 : Int) ^ (18 : Int).toNat ≤ z
        · rw [decide_eq_true c, if_pos rfl]
          have : (0 : Int) ≤ 10 ^ (18 : Int).toNat := by decide
          omega
        · rw [decide_eq_false c, if_neg Bool.false_ne_true]
          omega
    have rest : ∀ (H1 : Hp) (z : Int), Ext H H1 → ∀ D : Ends, D.rt = Q → (tSeq (tAsg (tOp (rI (fun _ j => 0 < j) fun i j => .int (i % j)) (tOp (rI CMul fun i j => .int (i * j)) (tOp (rI0 fun i j => .int (i + j)) (tOp (rI0 fun i j => .int (i + j)) (tOp (rI (fun _ j => 0 < j) fun i j => .int (i % j)) (tVar 2) (tC (.int 2147483629))) (tOp (rI CMul fun i j => .int (i * j)) (tC (.int 104729)) (tVar 1))) (tC (.int 11))) (tC (.int 48271))) (tC (.int 2147483647))) (gName 3))
        (tRet (tLst (tCons (tOp (rI CMul fun i j => .int (i * j)) (tVar 2) (tCB (fun xs H Q => (∃ i, xs = [.int i] ∧ Q (.int i) H) ∨ ∃ k, xs = [.bl k] ∧ Q (.int (if k then 1 else 0)) H) (tCons (tOp (rI0 fun i j => .bl (decide (j ≤ i))) (tVar 2) (tOp (rI CPow fun i j => .int (i ^ j.toNat)) (tC (.int 10)) (tC (.int 18)))) tNil))) (tCons (tVar 3) tNil))))) D [some (.ref a), some (.int (kk : Int)), some (.int z), none] H1 := by
      intro H1 z e D hD
      refine ⟨_, rfl, _, _, rfl, rfl, (by show (0 : Int) < _; decide), _, rfl, _, _, rfl, rfl, .inl ⟨by decide, by decide⟩, _, _, rfl, rfl, _, _, rfl, rfl, _, _, rfl, rfl, .inr ⟨by decide, by decide⟩, _, _, rfl, rfl, (by show (0 : Int) < _; decide), ?_⟩
      refine ⟨_, rfl, _, rfl, _, _, rfl, rfl, ⟨by decide, by decide, by decide⟩, _, _, rfl, rfl, .inr ⟨_, rfl, _, _, rfl, rfl, .inr ⟨?_, ?_⟩, _, rfl, two, fun p hp => ?_⟩⟩
      · split <;> decide
      · split <;> decide
      · rw [hD]
        exact fin H1 z e p hp
    refine ⟨_, rfl, by show 0 ≤ sizeLine; omega, fun q hq => ?_⟩
    have e1 : Ext H (upd H q (.lst [])) := Ext.upd hq
    have hs1 := hs.ext e1
    refine ⟨.list (ns.map PyData.int), .list [], .lst hs1 (dpAll_ints ns), .lst (SqL.of upd_same) .nil, ints_shaped ns, ints_shaped [], _, rfl, ?_⟩
    have hlen : ((ns.map V.int).length : Int) = (ns.length : Int) := by rw [List.length_map]
    match ns, hs1, hl, hlen with
    | [], hs1, hl, hlen =>
      rw [show PyData.eqv (.list (([] : List Int).map PyData.int)) (.list []) = true by simp [PyData.eqv, PyData.eqvAll]]
      refine iteF ⟨_, rfl, _, rfl, a, _, rfl, .inl hs1, _, _, rfl, rfl, _, rfl, ?_⟩
      rw [decide_eq_true (show ((([] : List Int).map V.int).length : Int) ≤ (kk : Int) by simp)]
      refine iteT ⟨_, rfl, _, _, rfl, rfl, (by show (0 : Int) < _; decide), rest _ _ e1 _ rfl⟩
    | n :: ns, hs1, hl, hlen =>
      rw [show PyData.eqv (.list ((n :: ns).map PyData.int)) (.list []) = false by simp [PyData.eqv, PyData.eqvAll]]
      have hm : kk % (n :: ns).length < (n :: ns).length := Nat.mod_lt _ (by simp)
      have hat : ((n :: ns).map V.int)[kk % (n :: ns).length]? = some (V.int (n :: ns)[kk % (n :: ns).length]) := by
        rw [List.getElem?_map, List.getElem?_eq_getElem hm]
        rfl
      have hatI : atI ((n :: ns).map V.int) ((kk : Int) % (((n :: ns).map V.int).length : Int)) = some (V.int (n :: ns)[kk % (n :: ns).length]) := by
        rw [hlen, ← Int.natCast_emod]
        exact atI_nat hat
      have hpos : (0 : Int) < (((n :: ns).map V.int).length : Int) := by rw [List.length_map]; simp
      refine iteT ⟨_, rfl, _, rfl, _, rfl, a, _, rfl, .inl hs1, _, _, rfl, rfl, hpos, a, _, _, _, rfl, rfl, hs1, hatI, ?_⟩
      · refine ⟨_, rfl, _, rfl, a, _, rfl, .inl hs1, _, _, rfl, rfl, _, rfl, ?_⟩
        by_cases c : (((n :: ns).map V.int).length : Int) ≤ (kk : Int)
        · rw [decide_eq_true c]
          exact iteT ⟨_, rfl, _, _, rfl, rfl, (by show (0 : Int) < _; decide), rest _ _ e1 _ rfl⟩
        · rw [decide_eq_false c]
          exact iteF (rest _ _ e1 _ rfl)
def spDraw : Sp := fun vs H Q _ => ∃ (d : Addr) (n : Nat) (x y : Int), vs = [.ref d, .int n] ∧ H d = some (.lst [.int x, .int y]) ∧ 0 ≤ x ∧ 0 ≤ y ∧ y < 2147483647 ∧ 0 < n ∧ n ≤ 1000 ∧
  ∀ (x' y' : Int) (r : Nat), 0 ≤ x' → 0 ≤ y' → y' < 2147483647 → r < n → Q (.int r) (upd H d (.lst [.int x', .int y']))
theorem scDraw : FnScope ["_law_draws_here", "_law_upto", "_law_digit"] ["_law_draws_here", "_law_upto"] (defScope sDraw) := ⟨rfl, rfl, rfl, by decide +kernel, rfl, by decide +kernel, by decide +kernel⟩
theorem ok_draw (F : Df K mg "_law_draw" sDraw) : FnOk P w K mg base CX0 1 F.f F.fd ["_law_draws_here", "_law_upto"] spDraw := by
  refine F.F.ok scDraw (fun vs H Q E h => ?_) (fun cdv A outer s H vs Q E hr h => ?_)
  · obtain ⟨d, n, x, y, rfl, _⟩ := h
    rfl
  · obtain ⟨d, n, x, y, rfl, hd, hx, hy, hy2, hn, hn2, k⟩ := h
    refine ⟨_, (pss_cons (ps_if (pt_cmpR op_gt (pe_ix ix_list (pv 0) pe_int (fun _ _ => rfl)) pe_int (nomark _)) (pss_cons (ps_set (i := 2) scDraw.nd rfl (Or.inl rfl) (pe_op op_mod (pe_ix ix_list (pv 0) pe_int (fun _ _ => rfl)) (pv 1))) (pss_cons (ps_asg (pe_op op_fdiv (pe_ix ix_list (pv 0) pe_int (fun _ _ => rfl)) (pv 1)) (pg_sub (pv 0) pe_int set_list)) (pss_one (ps_ret (pv 2))))) pss_nil) (pss_cons (ps_asg (pe_op op_mod (pe_op op_add (pe_op op_mul (pe_ix ix_list (pv 0) pe_int (fun _ _ => rfl)) pe_int) pe_int) pe_int) (pg_sub (pv 0) pe_int set_list)) (pss_one (ps_ret (pe_op op_mod (pe_op op_fdiv (pe_op op_mod (pe_op op_mul (pe_ix ix_list (pv 0) pe_int (fun _ _ => rfl)) (pe_ix ix_list (pv 0) pe_int (fun _ _ => rfl))) pe_int) pe_int) (pv 1)))))), ?_⟩
    have small : ∀ (z : Int), ∃ r : Nat, z % (n : Int) = (r : Int) ∧ r < n := fun z => by
      have h1 := Int.emod_nonneg z (show (n : Int) ≠ 0 by omega)
      have h2 := Int.emod_lt_of_pos z (show (0 : Int) < (n : Int) by omega)
      exact ⟨(z % (n : Int)).toNat, by omega, by omega⟩
    refine ⟨_, rfl, d, _, 0, .int x, rfl, rfl, SqL.of hd, rfl, _, _, rfl, rfl, _, rfl, ?_⟩
    by_cases c : 0 < x
    · rw [decide_eq_true c]
      obtain ⟨r, er, hr'⟩ := small x
      refine iteT ⟨_, rfl, d, _, 0, .int x, rfl, rfl, SqL.of hd, rfl, _, rfl, _, _, rfl, rfl, (by show (0 : Int) < (n : Int); omega), ?_⟩
      refine ⟨_, rfl, d, _, 0, .int x, rfl, rfl, SqL.of hd, rfl, _, rfl, _, _, rfl, rfl, ⟨by omega, by omega⟩, _, rfl, d, _, 0, 0, rfl, rfl, hd, rfl, _, rfl, ?_⟩
      have := k (x / (n : Int)) y r (Int.ediv_nonneg hx (by omega)) hy hy2 hr'
      show Q (.int (x % (n : Int))) _
      rw [er]
      exact this
    · rw [decide_eq_false c]
      refine iteF ⟨_, rfl, d, _, 1, .int y, rfl, rfl, SqL.of hd, rfl, _, _, rfl, rfl, .inr ⟨by decide, by decide⟩, _, _, rfl, rfl, _, _, rfl, rfl, (by show (0 : Int) < _; decide), _, rfl, d, _, 1, 1, rfl, rfl, hd, rfl, ?_⟩
      have h0 : 0 ≤ (y * 48271 + 11) % 2147483647 := Int.emod_nonneg _ (by decide)
      have h1 : (y * 48271 + 11) % 2147483647 < 2147483647 := Int.emod_lt_of_pos _ (by decide)
      have hd2 : (upd H d (.lst ([.int x, .int y].set 1 (.int ((y * 48271 + 11) % 2147483647))))) d = some (.lst [.int x, .int ((y * 48271 + 11) % 2147483647)]) := upd_same
      obtain ⟨r, er, hr'⟩ := small ((y * 48271 + 11) % 2147483647 * ((y * 48271 + 11) % 2147483647) % 2147483629 / 64)
      refine ⟨_, rfl, d, _, 1, _, rfl, rfl, SqL.of hd2, rfl, _, rfl, d, _, 1, _, rfl, rfl, SqL.of hd2, rfl, _, _, rfl, rfl, .inl ⟨by omega, by omega⟩, _, _, rfl, rfl, (by show (0 : Int) < _; decide), _, _, rfl, rfl, ⟨by decide, by decide⟩, _, rfl, _, _, rfl, rfl, (by show (0 : Int) < (n : Int); omega), ?_⟩
      have := k x ((y * 48271 + 11) % 2147483647) r hx h0 h1 hr'
      show Q (.int ((y * 48271 + 11) % 2147483647 * ((y * 48271 + 11) % 2147483647) % 2147483629 / 64 % (n : Int))) _
      rw [er]
      exact this
end
end K30
set_option maxHeartbeats 4000000
namespace K30
open PySem L2 ClX
/-- more of the class Effect -/
structure EfM (K : PySem.W.Frag) (mg : Str → Option Value) (T : EfC K mg) where
  mc : Value
  rd : CRead K T.C mc
  fId : DfM K "identity" "Effect.identity" (mE 1)
  pId : Addr
  mId : CMet K T.C mc "identity" pId fId.f
  fFail : DfM K "failing" "Effect.failing" (mE 2)
  pFail : Addr
  mFail : CMet K T.C mc "failing" pFail fFail.f
  fMul : DfM K "__mul__" "Effect.__mul__" (mE 13)
  sf : PySem.W.selfFirst K T.C = true
  hMul : PySem.W.findIn K (.ref T.C) "__mul__" = some (some (.ref fMul.f))
  fnMul : PySem.W.isFn K (.ref fMul.f) = true
  fEq : DfM K "__eq__" "Effect.__eq__" (mE 15)
  ne : NeC K T.C fEq.f
  fRepr : DfM K "__repr__" "Effect.__repr__" (mE 16)
  hRepr : PySem.W.findIn K (.ref T.C) "__repr__" = some (some (.ref fRepr.f))
  fnRepr : PySem.W.isFn K (.ref fRepr.f) = true
theorem getD_at {G : List (List Row)} {i : Nat} (h : i < G.length) : G.getD i [] = G[i] := by
  rw [List.getD_eq_getElem?_getD, List.getElem?_eq_getElem h]
  rfl
theorem prodI_ok {c : Nat} {G : List (List Row)} (hG : ∀ R ∈ G, okRows c R) : ∀ (is : List Nat) (A : List Row), (∀ i ∈ is, i < G.length) → okRows c A → okRows c (is.foldl (fun A i => jrows A (G.getD i [])) A)
  | [], _, _, h => h
  | i :: is, A, hi, h => by
    have hil := hi i (List.mem_cons_self ..)
    refine prodI_ok hG is _ (fun j hj => hi j (List.mem_cons_of_mem _ hj)) (jrows_ok h ?_)
    rw [getD_at hil]
    exact hG _ (List.getElem_mem hil)
theorem EffsAt.ok {K : PySem.W.Frag} {C : Addr} {H : Hp} {l c : Nat} {G : List (List Row)} (h : EffsAt K C H l c G) : ∀ R ∈ G, okRows c R := fun R hR => by
  obtain ⟨xs, _, hI⟩ := h
  obtain ⟨i, hi, e⟩ := List.mem_iff_getElem.mp hR
  obtain ⟨a, _, _, o, _⟩ := EffsAt.at hI (show G[i]? = some R by rw [List.getElem?_eq_getElem hi, e])
  exact o
/-- words over n letters, layer by layer -/
def layer (n : Nat) (L : List (List Nat)) : List (List Nat) := L.flatMap fun u => (List.range n).map fun i => u ++ [i]
def wordsN (n : Nat) : Nat → List (List Nat) × List (List Nat)
  | 0 => ([[]], [[]])
  | k + 1 => (layer n (wordsN n k).1, (wordsN n k).2 ++ layer n (wordsN n k).1)
theorem layer_len (n : Nat) (L : List (List Nat)) : (layer n L).length = L.length * n := by
  unfold layer
  induction L with
  | nil => simp
  | cons u L ih =>
    rw [List.flatMap_cons, List.length_append, ih, List.length_map, List.length_range, List.length_cons, Nat.succ_mul]
    omega
theorem layer_lt {n : Nat} {L : List (List Nat)} (h : ∀ u ∈ L, ∀ i ∈ u, i < n) : ∀ u ∈ layer n L, ∀ i ∈ u, i < n := by
  intro u hu i hi
  obtain ⟨v, hv, h2⟩ := List.mem_flatMap.mp hu
  obtain ⟨j, hj, rfl⟩ := List.mem_map.mp h2
  rcases List.mem_append.mp hi with hi | hi
  · exact h v hv i hi
  · rw [List.mem_singleton.mp hi]
    exact List.mem_range.mp hj
theorem wordsN_lt (n : Nat) : ∀ k, (∀ u ∈ (wordsN n k).1, ∀ i ∈ u, i < n) ∧ ∀ u ∈ (wordsN n k).2, ∀ i ∈ u, i < n
  | 0 => ⟨fun u hu i hi => (by rw [List.mem_singleton.mp hu] at hi; cases hi), fun u hu i hi => (by rw [List.mem_singleton.mp hu] at hi; cases hi)⟩
  | k + 1 => by
    obtain ⟨h1, h2⟩ := wordsN_lt n k
    refine ⟨layer_lt h1, fun u hu => ?_⟩
    rcases List.mem_append.mp hu with hu | hu
    · exact h2 u hu
    · exact layer_lt h1 u hu
theorem words_few : ∀ n k, n ≤ 3 → k ≤ 4 → (wordsN n k).1.length ≤ 81 ∧ (wordsN n k).2.length ≤ 200 := by
  have h : ∀ n : Fin 4, ∀ k : Fin 5, (wordsN n.val k.val).1.length ≤ 81 ∧ (wordsN n.val k.val).2.length ≤ 200 := by decide +kernel
  exact fun n k hn hk => h ⟨n, by omega⟩ ⟨k, by omega⟩
theorem layer_at {n : Nat} {L : List (List Nat)} {i : Nat} {u : List Nat} (h : L[i]? = some u) : layer n (L.take (i + 1)) = layer n (L.take i) ++ (List.range n).map fun j => u ++ [j] := by
  unfold layer
  rw [List.take_add_one, h, List.flatMap_append]
  simp
theorem wordsN_len (n : Nat) : ∀ k, ∀ u ∈ (wordsN n k).1, u.length = k
  | 0, u, hu => by rw [List.mem_singleton.mp hu]; rfl
  | k + 1, u, hu => by
    obtain ⟨v, hv, h2⟩ := List.mem_flatMap.mp hu
    obtain ⟨j, hj, rfl⟩ := List.mem_map.mp h2
    rw [List.length_append, wordsN_len n k v hv]
    rfl
section
variable {P : Program} {w : World} {K : PySem.W.Frag} {mg : Str → Option Value} {base : Heap}
/-! ### _law_product -/
def spProd (K : PySem.W.Frag) (C : Addr) : Sp := fun vs H Q _ => ∃ (l c : Nat) (u : V) (G : List (List Row)) (is : List Nat), vs = [.ref l, u] ∧ EffsAt K C H l c G ∧ G ≠ [] ∧ Dp K H u (idxD is) ∧ (∀ i ∈ is, i < G.length) ∧ ∀ H' p, Ext H H' → EfAt K C H' p (prodI c G is) → Q (.ref p) H'
theorem scProd : FnScope ["_law_effects", "_law_indices", "_law_found", "_law_at"] ["_law_effects", "_law_indices"] (defScope sProd) := ⟨rfl, rfl, rfl, by decide +kernel, rfl, by decide +kernel, by decide +kernel⟩
theorem bIdent (F : DfM K "identity" "Effect.identity" (mE 1)) : Binds K F.fd ["cls", "capacity"] [] := F.F.binds (ps := ["cls", "capacity"]) fun _ _ _ _ _ _ us hl => match us, hl with | [_, _], _ => rfl
theorem bMul (F : DfM K "__mul__" "Effect.__mul__" (mE 13)) : Binds K F.fd ["self", "other"] [] := F.F.binds (ps := ["self", "other"]) fun _ _ _ _ _ _ us hl => match us, hl with | [_, _], _ => rfl
theorem identR {T : EfC K mg} (F : DfM K "identity" "Effect.identity" (mE 1)) (GI : FnOk P w K mg base CX0 8 F.f F.fd ["cls", "capacity"] (spIdent K T.C)) : FnR P w K mg base CX0 8 F.f (spIdent K T.C) :=
  (GI.raw (bIdent F) .nil).imp fun vs H Q E h => by rw [List.append_nil]; exact h
theorem ok_prod (F : Df K mg "_law_product" sProd) (B : Nb mg) (T : EfC K mg) (N : EfM K mg T) (GI0 : FnOk P w K mg base CX0 8 N.fId.f N.fId.fd ["cls", "capacity"] (spIdent K T.C)) (GM : FnOk P w K mg base CX0 8 N.fMul.f N.fMul.fd ["self", "other"] (spMul K T.C)) :
    FnOk P w K mg base CX0 9 F.f F.fd ["_law_effects", "_law_indices"] (spProd K T.C) := by
  have GI : FnR P w K mg base CX0 8 N.fId.f (spIdent K T.C) := identR N.fId GI0
  have bM := bMul N.fMul
  refine F.F.ok scProd (fun vs H Q E h => ?_) (fun cdv A outer s H vs Q E hr h => ?_)
  · obtain ⟨l, c, u, G, is, rfl, _⟩ := h
    rfl
  · obtain ⟨l, c, u, G, is, rfl, hE, hG, hu, hi, k⟩ := h
    have hr2 : Room 2 (A.deeper (PyProof.Rows.envOfC "_law_product" (defScope sProd) s.heap.objs.size F.f cdv)) := hr.mono (by decide)
    refine ⟨_, (pss_cons (ps_set (i := 2) scProd.nd rfl (Or.inl rfl) (pe_cmeth (pe_glob (v := .ref T.C) (by rfl) T.m rfl) N.rd N.mId GI hr pass0 (pa_cons (q_cap (k := 0) T B (pe_ix ix_list (pv 0) pe_int (fun _ _ => rfl)) hr2) pa_nil))) (pss_cons (ps_for PassesOwn.never rfl (pi_tup (pv 1)) (pg_name (i := 3) scProd.nd rfl (.inl rfl)) (pss_one (ps_set (i := 2) scProd.nd rfl (Or.inl rfl) (pe_op (op_mulE GM hr N.sf N.hMul N.fnMul bM pass0) (pv 2) (pe_ix ix_list (pv 0) (pv 3) (fun _ _ => rfl)))))) (pss_one (ps_ret (pv 2))))), ?_⟩
    have hok := hE.ok
    obtain ⟨xs, hx, hI⟩ := id hE
    have hl := hI.len
    rw [List.length_map] at hl
    have h0 : 0 < G.length := List.length_pos_iff.mpr hG
    obtain ⟨a0, ea0, hE0, o0, c1, c2⟩ := EffsAt.at hI (List.getElem?_eq_getElem h0)
    obtain ⟨dx, t0, g0, _⟩ := id hE0
    obtain ⟨t, rfl, hs⟩ := idx_inv hu
    refine ⟨rfl, _, rfl, l, xs, 0, .ref a0, rfl, rfl, SqL.of hx, atI_nat (j := 0) ea0, a0, dx, _, rfl, g0, a0, _, c, rfl, hE0, o0.1, ?_⟩
    refine ⟨c, rfl, c1, c2, fun H1 p e1 hp => ?_⟩
    refine ⟨_, rfl, t, rfl, ⟨_, hs.ext e1⟩, for_it (walk_tup (xs := is.map fun i => V.int (i : Nat))) (fun j σ H' => Ext H H' ∧ ∃ q o, σ = [some (.ref l), some (.ref t), some (.ref q), o] ∧ EfAt K T.C H' q (prodI c G (is.take j)))
      ⟨e1, p, _, rfl, hp⟩ (fun j σ H' _ e => hs.ext e.1) ?_ ?_⟩
    · rintro j x σ H2 H3 hj ⟨e2, q, o, rfl, hq⟩ ⟨rfl, hx2⟩
      rw [List.getElem?_map] at hx2
      cases ej : is[j]? with
      | none => rw [ej] at hx2; cases hx2
      | some i =>
        rw [ej] at hx2
        cases hx2
        have hil := hi i (List.mem_of_getElem? ej)
        obtain ⟨b, eb, hEb, ob, _⟩ := EffsAt.at (hI.ext e2) (List.getElem?_eq_getElem hil)
        have oq : okRows c (prodI c G (is.take j)) := prodI_ok hok _ _ (fun x hx => hi x (List.mem_of_mem_take hx)) (idRows_ok c)
        obtain ⟨dq, tq, gq, _⟩ := id hq
        obtain ⟨db, tb, gb, _⟩ := id hEb
        refine ⟨_, rfl, _, rfl, _, rfl, l, xs, (i : Int), .ref b, rfl, rfl, SqL.of (e2 _ _ hx), atI_nat eb, ?_⟩
        refine ⟨q, b, dq, db, _, _, rfl, rfl, gq, gb, q, b, c, _, _, rfl, hq, hEb, c1, c2, oq, ob, fun H4 r e4 hr' => ?_⟩
        refine ⟨e2.trans e4, r, _, rfl, ?_⟩
        have : prodI c G (is.take (j + 1)) = jrows (prodI c G (is.take j)) G[i] := by
          unfold prodI
          rw [List.take_add_one, ej, List.foldl_append]
          show jrows _ (G.getD i []) = _
          rw [getD_at hil]
        rw [this]
        exact hr'
    · rintro σ H2 ⟨e2, q, o, rfl, hq⟩
      rw [List.length_map, List.take_length] at hq
      exact ⟨_, rfl, k H2 q e2 hq⟩
/-! ### _law_words -/
abbrev NW : List Str := ["_law_effects", "_law_long", "_law_layer", "_law_found", "_law_turn", "_law_longer", "_law_word", "_law_at"]
theorem scWords : FnScope NW ["_law_effects", "_law_long"] (defScope sWords) := ⟨rfl, rfl, rfl, by decide +kernel, rfl, by decide +kernel, by decide +kernel⟩
/-- a tracked list of index tuples -/
def WdsAt (K : PySem.W.Frag) (H : Hp) (l : Addr) (L : List (List Nat)) : Prop := ∃ xs, H l = some (.lst xs) ∧ DpAll K H xs (L.map idxD)
theorem WdsAt.ext {K : PySem.W.Frag} {H H' : Hp} {l : Addr} {L : List (List Nat)} (h : WdsAt K H l L) (e : Ext H H') : WdsAt K H' l L := by
  obtain ⟨xs, h1, h2⟩ := h
  exact ⟨xs, e _ _ h1, dpAll_ext' e h2⟩
def spWords (K : PySem.W.Frag) : Sp := fun vs H Q _ => ∃ (l : Addr) (xs : List V), vs = [.ref l, .int 4] ∧ H l = some (.lst xs) ∧ xs.length ≤ 3 ∧ ∀ H' p, Ext H H' → WdsAt K H' p (wordsN xs.length 4).2 → Q (.ref p) H'
theorem ok_words (F : Df K mg "_law_words" sWords) (B : Nb mg) : FnOk P w K mg base CX0 1 F.f F.fd ["_law_effects", "_law_long"] (spWords K) := by
  refine F.F.ok scWords (fun vs H Q E h => ?_) (fun cdv A outer s H vs Q E hr h => ?_)
  · obtain ⟨l, xs, rfl, _⟩ := h
    rfl
  · obtain ⟨l, xs, rfl, hx, hl, k⟩ := h
    refine ⟨_, (pss_cons (ps_par (i := 2) (j := 3) rfl scWords.nd rfl rfl (by decide) rfl rfl (pa_cons (pe_lst (pa_cons (pe_tup pa_nil) pa_nil)) (pa_cons (pe_lst (pa_cons (pe_tup pa_nil) pa_nil)) pa_nil)) (by rfl)) (pss_cons (ps_for PassesOwn.never rfl (pi_range1 rfl B.range (pa_cons (pv 1) pa_nil)) (pg_name (i := 4) scWords.nd rfl (.inl rfl)) (pss_cons (ps_set (i := 5) scWords.nd rfl (Or.inl rfl) (pe_lst pa_nil)) (pss_cons (ps_for PassesOwn.never rfl (pi_list (pv 2)) (pg_name (i := 6) scWords.nd rfl (.inr rfl)) (pss_one (ps_set (i := 5) scWords.nd rfl (Or.inl rfl) (pe_op op_cat (pv 5) (pe_lc (own := [("_law_at", 7)]) (g := gName 7) (tt := tYes) rfl scWords.nd (pi_range1 rfl B.range (pa_cons (q_len (pv 0) B) pa_nil)) (blkOk_by (N := NW) (sc := defScope sWords) (by decide +kernel)) (fun _ _ _ _ _ => (pg_name (i := 7) scWords.nd rfl (.inl rfl))) (fun _ _ _ _ _ => pts_nil) (fun _ _ _ _ _ => (pe_op (r := rCatA K) op_catA (pv 6) (pe_tup (pa_cons (pv 7) pa_nil))))))))) (pss_cons (ps_set (i := 2) scWords.nd rfl (Or.inl rfl) (pv 5)) (pss_one (ps_set (i := 3) scWords.nd rfl (Or.inl rfl) (pe_op op_cat (pv 3) (pv 2)))))))) (pss_one (ps_ret (pv 3))))), ?_⟩
    have zero : 0 ≤ sizeLine := Nat.zero_le _
    have one : 1 ≤ sizeLine := by rw [sizeLine_eq]; decide
    refine ⟨zero, fun t1 h1 => ⟨one, fun l1 h2 => ⟨zero, fun t2 h3 => ⟨one, fun l2 h4 => ⟨_, _, rfl, ?_⟩⟩⟩⟩⟩
    have x1 : Ext H (upd (upd H t1 (.tup [])) l1 (.lst [.ref t1])) := (Ext.upd h1).trans (Ext.upd h2)
    have x2 : Ext (upd (upd H t1 (.tup [])) l1 (.lst [.ref t1])) (upd (upd (upd (upd H t1 (.tup [])) l1 (.lst [.ref t1])) t2 (.tup [])) l2 (.lst [.ref t2])) := (Ext.upd h3).trans (Ext.upd h4)
    have n1 : t1 ≠ l1 := fun z => by subst z; rw [upd_same] at h2; cases h2
    have n2 : t2 ≠ l2 := fun z => by subst z; rw [upd_same] at h4; cases h4
    have w1 : WdsAt K (upd (upd H t1 (.tup [])) l1 (.lst [.ref t1])) l1 [[]] := ⟨[.ref t1], upd_same, .cons (idx_mk (is := []) (SqT.of (by rw [upd_ne n1, upd_same]; rfl))) .nil⟩
    have w2 : WdsAt K (upd (upd (upd (upd H t1 (.tup [])) l1 (.lst [.ref t1])) t2 (.tup [])) l2 (.lst [.ref t2])) l2 [[]] := ⟨[.ref t2], upd_same, .cons (idx_mk (is := []) (SqT.of (by rw [upd_ne n2, upd_same]; rfl))) .nil⟩
    generalize hn : xs.length = n at hl k
    have lens : ∀ k, k ≤ 4 → (wordsN n k).1.length ≤ 81 ∧ (wordsN n k).2.length ≤ 200 := fun k hk => words_few n k hl hk
    refine ⟨_, rfl, 4, rfl, by decide, by decide, for_range (n := 4) (fun j σ H' => Ext H H' ∧ ∃ p q o4 o5 o6, σ = [some (.ref l), some (.int 4), some (.ref p), some (.ref q), o4, o5, o6, none] ∧ WdsAt K H' p (wordsN n j).1 ∧ WdsAt K H' q (wordsN n j).2)
      ⟨x1.trans x2, l1, l2, _, _, _, rfl, w1.ext x2, w2⟩ ?_ ?_⟩
    · rintro j σ H1 hj ⟨e1, p, q, o4, o5, o6, rfl, wp, wq⟩
      refine ⟨zero, fun r hr' => ?_⟩
      have er : Ext H1 (upd H1 r (.lst [])) := Ext.upd hr'
      obtain ⟨ps, hps, hpd⟩ := wp.ext er
      have hpl := dpAll_len hpd
      rw [List.length_map] at hpl
      have lj := lens j (by omega)
      refine ⟨_, rfl, p, rfl, ⟨_, SqL.of hps⟩, for_list (K := K) (a := p) (xs := ps) (fun i σ H2 => Ext H1 H2 ∧ (∃ r o6, σ = [some (.ref l), some (.int 4), some (.ref p), some (.ref q), some (.int (0 + (j : Nat))), some (.ref r), o6, none] ∧ WdsAt K H2 r (layer n ((wordsN n j).1.take i))) ∧ H2 p = some (.lst ps) ∧ DpAll K H2 ps ((wordsN n j).1.map idxD))
        ⟨er, ⟨r, _, rfl, [], upd_same, .nil⟩, hps, hpd⟩ (fun i σ H2 _ e => SqL.of e.2.2.1) ?_ ?_⟩
      · rintro i y σ H2 hi ⟨e2, ⟨r2, o6', rfl, wr⟩, hp2, hd2⟩
        have hil : i < (wordsN n j).1.length := by have := (List.getElem?_eq_some_iff.mp hi).1; omega
        have eu : (wordsN n j).1[i]? = some (wordsN n j).1[i] := List.getElem?_eq_getElem hil
        generalize (wordsN n j).1[i] = u at eu
        have hul : u.length = j := wordsN_len n j u (List.mem_of_getElem? eu)
        obtain ⟨y', ey, dy⟩ := dpAll_get hd2 (show ((wordsN n j).1.map idxD)[i]? = some (idxD u) by rw [List.getElem?_map, eu]; rfl)
        rw [hi] at ey; cases ey
        obtain ⟨tu, rfl, hsu⟩ := idx_inv dy
        obtain ⟨rs, hrs, hrd⟩ := id wr
        have hrl := dpAll_len hrd
        rw [List.length_map, layer_len, List.length_take] at hrl
        have hx2 := e1.trans e2 _ _ hx
        refine ⟨_, rfl, _, rfl, l, xs, rfl, .inl (SqL.of hx2), _, rfl, by omega, by omega, fun D hD => ?_⟩
        refine lc_pure (walk_range (lo := 0) (n := xs.length)) hD (by omega) (fun _ _ => True.intro) (fun i v H => Dp K H v (idxD (u ++ [i]))) (fun i H x H' y => y.1 ▸ Ext.rfl')
          (fun i v H H' acc e1 e2 h => dp_extL e1 e2 _ _ (tupy_idx _) h) ?_ ?_ (fun h q => h _ _ q) (fun h q => h _ _ q)
        · rintro i2 x H3 H4 hi2 e3 ⟨rfl, rfl⟩ R hR
          refine ⟨rfl, iteT (B := False) ?_⟩
          refine ⟨_, rfl, _, rfl, one, fun t ht => ?_⟩
          have et : Ext H4 (upd H4 t (.tup [.int (0 + (i2 : Int))])) := Ext.upd ht
          refine ⟨tu, t, _, [.int (0 + (i2 : Int))], rfl, rfl, (hsu.ext e3).ext et, SqT.of upd_same, (by rw [List.length_map, hul, sizeLine_eq]; show j + 1 ≤ _; omega), fun z => ?_, (fun _ z => nomatch z), fun z _ p hp => ?_⟩
          · have hu0 : u = [] := List.map_eq_nil_iff.mp z
            subst hu0
            refine hR _ _ et (idx_mk (SqT.of ?_))
            rw [upd_same]
            show some (HO.tup [V.int (0 + (i2 : Int))]) = some (HO.tup [V.int (i2 : Int)])
            rw [Int.zero_add]
          · refine hR _ _ (et.trans (Ext.upd hp)) (idx_mk (SqT.of ?_))
            rw [upd_same, List.map_append]
            show some (HO.tup (_ ++ [V.int (0 + (i2 : Int))])) = some (HO.tup (_ ++ [V.int (i2 : Int)]))
            rw [Int.zero_add]
        · intro ys H3 hl' hy hR e3
          have hy' : DpAll K H3 ys (((List.range n).map fun j => u ++ [j]).map idxD) := by
            refine dpAll_of (by rw [List.length_map, List.length_map, List.length_range]; omega) fun i3 y d ey ed => ?_
            have hi3 : i3 < n := by have := (List.getElem?_eq_some_iff.mp ey).1; omega
            rw [List.getElem?_map, List.getElem?_map, List.getElem?_range hi3] at ed
            cases ed
            exact hR i3 y ey
          have hrn : rs.length ≤ 250 := by
            rw [hrl]
            have : min i (wordsN n j).1.length * n ≤ 81 * 3 := Nat.mul_le_mul (by omega) hl
            omega
          refine ⟨r2, D, rs, ys, rfl, rfl, e3 _ _ hrs, hy, by rw [sizeLine_eq]; omega, fun p' hp' => ?_⟩
          have ep : Ext H3 (upd H3 p' (.lst (rs ++ ys))) := Ext.upd hp'
          refine ⟨(e2.trans e3).trans ep, ⟨p', _, rfl, rs ++ ys, upd_same, ?_⟩, ep _ _ (e3 _ _ hp2), dpAll_ext' (e3.trans ep) hd2⟩
          rw [layer_at eu, List.map_append]
          exact dpAll_app (dpAll_ext' (e3.trans ep) hrd) (dpAll_ext' ep hy')
      · rintro σ H2 ⟨e2, ⟨r2, o6', rfl, wr⟩, hp2, hd2⟩
        rw [show (wordsN n j).1.take ps.length = (wordsN n j).1 from List.take_of_length_le (by omega)] at wr
        obtain ⟨rs, hrs, hrd⟩ := id wr
        obtain ⟨qs, hqs, hqd⟩ := wq.ext e2
        have hrl := dpAll_len hrd
        have hql := dpAll_len hqd
        rw [List.length_map] at hrl hql
        have lj1 := lens (j + 1) (by omega)
        have hrl' : rs.length ≤ 81 := by rw [hrl]; exact lj1.1
        refine ⟨_, rfl, _, rfl, _, rfl, q, r2, qs, rs, rfl, rfl, hqs, hrs, by rw [sizeLine_eq]; omega, fun p' hp' => ?_⟩
        have ep : Ext H2 (upd H2 p' (.lst (qs ++ rs))) := Ext.upd hp'
        refine ⟨(e1.trans e2).trans ep, r2, p', _, _, _, rfl, wr.ext ep, qs ++ rs, upd_same, ?_⟩
        show DpAll K _ (qs ++ rs) (((wordsN n j).2 ++ layer n (wordsN n j).1).map idxD)
        rw [List.map_append]
        exact dpAll_app (dpAll_ext' ep hqd) (dpAll_ext' ep hrd)
    · rintro σ H1 ⟨e1, p, q, o4, o5, o6, rfl, wp, wq⟩
      exact ⟨_, rfl, k H1 q e1 wq⟩
end
end K30
set_option maxHeartbeats 1000000
namespace K30
open PySem L2 ClX
theorem b_repr : bootBuiltins "repr" = some (.builtin "repr") := by decide +kernel
theorem b_sorted : bootBuiltins "sorted" = some (.builtin "sorted") := by decide +kernel
/-! ### equal pairs -/
abbrev DEl (K : PySem.W.Frag) (C : Addr) : Eqv := fun x y H => DIns C (ReqE K C) x y H ∨ DTup K DFlat x y H
abbrev DPair (K : PySem.W.Frag) (C : Addr) : Eqv := DTup K (DEl K C)
theorem mon_req {K : PySem.W.Frag} {C : Addr} : Mon (DIns C (ReqE K C)) := mon_ins fun a b H H' e ⟨R, o, h1, h2⟩ => ⟨R, o, h1.ext e, h2.ext e⟩
theorem mon_el {K : PySem.W.Frag} {C : Addr} : Mon (DEl K C) := mon_req.or (mon_tup mon_flat)
theorem mon_pair {K : PySem.W.Frag} {C : Addr} : Mon (DPair K C) := mon_tup mon_el
section
variable {X : Cx}
theorem bEq {K : PySem.W.Frag} (F : DfM K "__eq__" "Effect.__eq__" (mE 15)) : Binds K F.fd ["self", "other"] [] := F.F.binds (ps := ["self", "other"]) fun _ _ _ _ _ _ us hl => match us, hl with | [_, _], _ => rfl
theorem eqEl (T : EfC X.K X.mg) (N : EfM X.K X.mg T) (GQ : FnOk X.prog X.w X.K X.mg X.base CX0 1 N.fEq.f N.fEq.fd ["self", "other"] (spEq (ReqE X.K T.C))) : EqG X 1 (DEl X.K T.C) :=
  (eqG_ins (E := E0) GQ N.ne.eq N.ne.fn (bEq N.fEq) pass0).or (eqG_tup mon_flat eqG_flat)
theorem ncPair (T : EfC X.K X.mg) (N : EfM X.K X.mg T) (GQ : FnOk X.prog X.w X.K X.mg X.base CX0 1 N.fEq.f N.fEq.fd ["self", "other"] (spEq (ReqE X.K T.C))) : NcG X 2 (DPair X.K T.C) := ncG_tup mon_el (eqEl T N GQ)
theorem eqPair (T : EfC X.K X.mg) (N : EfM X.K X.mg T) (GQ : FnOk X.prog X.w X.K X.mg X.base CX0 1 N.fEq.f N.fEq.fd ["self", "other"] (spEq (ReqE X.K T.C))) : EqG X 2 (DPair X.K T.C) := eqG_tup mon_el (eqEl T N GQ)
theorem ncPairs (T : EfC X.K X.mg) (N : EfM X.K X.mg T) (GQ : FnOk X.prog X.w X.K X.mg X.base CX0 1 N.fEq.f N.fEq.fd ["self", "other"] (spEq (ReqE X.K T.C))) : NcG X 3 (DList (DPair X.K T.C)) := ncG_list mon_pair (eqPair T N GQ)
end
theorem prs_ints {H : Hp} (is : List Nat) : Prs DFlat (is.map fun i => V.int (i : Nat)) (is.map fun i => V.int (i : Nat)) H := by
  refine ⟨rfl, fun i x y h1 h2 => ?_⟩
  rw [h1] at h2
  cases h2
  rw [List.getElem?_map] at h1
  cases q : is[i]? with
  | none => rw [q] at h1; cases h1
  | some k => rw [q] at h1; cases h1; exact ⟨rfl, rfl, by show ((k : Int) == (k : Int)) = true; exact beq_self_eq_true _⟩
theorem dIns_of {K : PySem.W.Frag} {C : Addr} {H : Hp} {a b : Addr} {R : List Row} (o : okW R) (h1 : EfAt K C H a R) (h2 : EfAt K C H b R) : DIns C (ReqE K C) (.ref a) (.ref b) H := by
  obtain ⟨dx, t, g1, _⟩ := id h1
  obtain ⟨dy, u, g2, _⟩ := id h2
  exact ⟨a, b, dx, dy, _, _, rfl, rfl, g1, g2, R, o, h1, h2⟩
theorem dPair_of {K : PySem.W.Frag} {C : Addr} {H : Hp} {v v' : V} {e : Pr} (o : okW e.1) (h1 : PairAt K C H v e) (h2 : PairAt K C H v' e) : DPair K C v v' H := by
  obtain ⟨t, a, u, rfl, s1, e1, d1⟩ := h1
  obtain ⟨t', a', u', rfl, s2, e2, d2⟩ := h2
  obtain ⟨_, z1, i1⟩ := idx_inv d1
  obtain ⟨_, z2, i2⟩ := idx_inv d2
  cases z1
  cases z2
  exact ⟨t, t', _, _, rfl, rfl, s1, s2, .cons (.inl (dIns_of o e1 e2)) (.cons (.inr ⟨u, u', _, _, rfl, rfl, i1, i2, prs_ints _⟩) .nil)⟩
theorem tupy_key (u : List Nat) : tupy (keyD u) = true := by
  show (true && (tupy (idxD u) && true)) = true
  rw [tupy_idx]
  rfl
theorem idxAll_can : ∀ u : List Nat, PyData.canLayAll0 (u.map fun i : Nat => PyData.int (i : Int)) = true
  | [] => by simp [PyData.canLayAll0]
  | n :: ns => by rw [List.map_cons, PyData.canLayAll0, idxAll_can ns]; simp [PyData.canLay0]
theorem idxAll_depth : ∀ u : List Nat, PyData.depthAll (u.map fun i : Nat => PyData.int (i : Int)) = 0
  | [] => by simp [PyData.depthAll]
  | n :: ns => by rw [List.map_cons, PyData.depthAll, idxAll_depth ns]; simp [PyData.depth]
theorem keyD_can (u : List Nat) : (keyD u).canLay0 = true := by
  unfold keyD idxD
  simp [PyData.canLay0, PyData.canLayAll0, idxAll_can]
theorem keyD_depth (u : List Nat) : (keyD u).depth ≤ 2 := by
  unfold keyD idxD
  simp [PyData.depth, PyData.depthAll, idxAll_depth]
theorem keysAll_can : ∀ F : List Pr, PyData.canLayAll0 (F.map fun e : Pr => keyD e.2) = true
  | [] => by simp [PyData.canLayAll0]
  | e :: F => by rw [List.map_cons, PyData.canLayAll0, keyD_can, keysAll_can F]; rfl
theorem keysAll_depth : ∀ F : List Pr, PyData.depthAll (F.map fun e : Pr => keyD e.2) ≤ 2
  | [] => by simp [PyData.depthAll]
  | e :: F => by rw [List.map_cons, PyData.depthAll]; exact Nat.max_le.mpr ⟨keyD_depth _, keysAll_depth F⟩
theorem keys_shaped (F : List Pr) : SeqAt.shaped (.list (F.map fun e : Pr => keyD e.2)) = true := by
  unfold SeqAt.shaped
  rw [PyData.canLay0, keysAll_can, PyData.depth, decide_eq_true (by have := keysAll_depth F; omega)]
  rfl
def txts (c : Nat) (F : List Pr) : List Str := F.map fun e => efText c e.1
theorem txts_len {c : Nat} {F : List Pr} : (txts c F).length = F.length := List.length_map ..
theorem txts_at {c : Nat} {F : List Pr} {j : Nat} {e : Pr} (h : F[j]? = some e) : (txts c F)[j]? = some (efText c e.1) := by
  unfold txts
  rw [List.getElem?_map, h]
  rfl
theorem txts_mem {c : Nat} {F : List Pr} {e : Pr} (h : e ∈ F) : efText c e.1 ∈ txts c F := List.mem_map.mpr ⟨e, h, rfl⟩
abbrev NC : List Str := ["_law_effects", "_law_pairs", "_law_effect", "_law_indices", "_law_texts", "_law_keys", "_law_one"]
section
variable {P : Program} {w : World} {K : PySem.W.Frag} {mg : Str → Option Value} {base : Heap}
theorem scClosed : FnScope NC ["_law_effects", "_law_pairs"] (defScope sClosed) := ⟨rfl, rfl, rfl, by decide +kernel, rfl, by decide +kernel, by decide +kernel⟩
theorem bProd (F : Df K mg "_law_product" sProd) : Binds K F.fd ["_law_effects", "_law_indices"] [] := F.F.binds (ps := ["_law_effects", "_law_indices"]) fun _ _ _ _ _ _ us hl => match us, hl with | [_, _], _ => rfl
def spClosed (K : PySem.W.Frag) (C : Addr) : Sp := fun vs H Q _ => ∃ (l q c : Nat) (G : List (List Row)) (F : List Pr), vs = [.ref l, .ref q] ∧ EffsAt K C H l c G ∧ (c = 1 ∨ c = 2) ∧ G ≠ [] ∧ G.length ≤ 3 ∧ (∀ R ∈ G, okAB R) ∧ PairsAt K C H q F ∧ Whole c G F ∧ F.length ≤ 400 ∧ ∀ H', Ext H H' → Q (.bl true) H'
theorem ok_closed (FC : Df K mg "_law_closed" sClosed) (B : Nb mg) (T : EfC K mg) (N : EfM K mg T) (GI0 : FnOk P w K mg base CX0 8 N.fId.f N.fId.fd ["cls", "capacity"] (spIdent K T.C)) (GM : FnOk P w K mg base CX0 8 N.fMul.f N.fMul.fd ["self", "other"] (spMul K T.C))
    (GQ : FnOk P w K mg base CX0 1 N.fEq.f N.fEq.fd ["self", "other"] (spEq (ReqE K T.C))) (GR : FnG P w K mg base CX0 3 N.fRepr.f N.fRepr.fd ["self"] (spRepr K T.C)) (FP : Df K mg "_law_product" sProd) (GP : FnOk P w K mg base CX0 9 FP.f FP.fd ["_law_effects", "_law_indices"] (spProd K T.C)) :
    FnG P w K mg base CX0 10 FC.f FC.fd ["_law_effects", "_law_pairs"] (spClosed K T.C) := by
  have GI : FnR P w K mg base CX0 8 N.fId.f (spIdent K T.C) := identR N.fId GI0
  have bR : Binds K N.fRepr.fd ["self"] [] := N.fRepr.F.binds (ps := ["self"]) fun _ _ _ _ _ _ us hl => match us, hl with | [_], _ => rfl
  have bQ := bEq N.fEq
  refine Fun.okG FC.F scClosed (fun vs H Q E h => ?_) (fun cdv A outer s H vs Q E hg hr h => ?_)
  · obtain ⟨l, q, c, G, F, rfl, _⟩ := h
    rfl
  · obtain ⟨l, q, c, G, F, rfl, hE, hc, hG, hG3, hab, hP, W, hF, k⟩ := h
    have hr2 : Room 2 (A.deeper (PyProof.Rows.envOfC "_law_closed" (defScope sClosed) s.heap.objs.size FC.f cdv)) := hr.mono (by decide)
    have hr4 : Room 4 (A.deeper (PyProof.Rows.envOfC "_law_closed" (defScope sClosed) s.heap.objs.size FC.f cdv)) := hr.mono (by decide)
    refine ⟨_, (pss_cons (ps_set (i := 4) scClosed.nd rfl (Or.inr rfl) (pe_lc (own := [("_law_effect", 2), ("_law_indices", 3)]) (g := gTup K 2 (gCons (gName 2) (gCons (gName 3) gNil))) (tt := tYes) rfl scClosed.nd (pi_list (pv 1)) (blkOk_by (N := NC) (sc := defScope sClosed) (by decide +kernel)) (fun _ _ _ _ _ => (pg_tup (by rfl) (pgs_cons (pg_name (i := 2) scClosed.nd rfl (.inl rfl)) (pgs_cons (pg_name (i := 3) scClosed.nd rfl (.inl rfl)) pgs_nil)))) (fun _ _ _ _ _ => pts_nil) (fun _ _ _ _ _ => (pe_callB (call_reprO GR hg hr4 N.hRepr N.fnRepr bR pass0) (by rfl) B.repr b_repr (pa_cons (pv 2) pa_nil))))) (pss_cons (ps_if (PW.pt (pw_or (pt_cmpR op_ne (pe_lenSetS rfl (by rfl) B.len (by rfl) B.set (pv 4)) (q_len (pv 4) B) (nomark _)) (pw_or1 (pt_cmpR (r := rNc (DPair K T.C)) (op_nc (ncPair (X := cxOf CX0 P w K mg base NC "_law_closed" (defScope sClosed) FC.f cdv A outer s H E) T N GQ) hr2) (pe_ix ix_list (pv 1) pe_int (fun _ _ => rfl)) (pe_tup (pa_cons (pe_cmeth (pe_glob (v := .ref T.C) (by rfl) T.m rfl) N.rd N.mId GI (hr.mono (by decide)) pass0 (pa_cons (q_cap (k := 0) T B (pe_ix ix_list (pv 0) pe_int (fun _ _ => rfl)) hr2) pa_nil)) (pa_cons (pe_tup pa_nil) pa_nil))) (nomark _))))) (pss_one (ps_ret pe_bl)) pss_nil) (pss_cons (ps_setLc (i := 5) (own := [("_law_effect", 2), ("_law_indices", 3)]) (g := gTup K 2 (gCons (gName 2) (gCons (gName 3) gNil))) (tt := tYes) rfl scClosed.nd rfl rfl (sw_true rfl rfl rfl (by decide +kernel)) (pi_list (pv 1)) (blkOk_by (N := NC) (sc := defScope sClosed) (by decide +kernel)) (fun _ _ _ _ _ => (pg_tup (by rfl) (pgs_cons (pg_name (i := 2) scClosed.nd rfl (.inl rfl)) (pgs_cons (pg_name (i := 3) scClosed.nd rfl (.inl rfl)) pgs_nil)))) (fun _ _ _ _ _ => pts_nil) (fun _ _ _ _ _ => (pe_tup (pa_cons (pe_callB (r := rLenQ K) call_len_seq (by rfl) B.len b_len (pa_cons (pv 3) pa_nil)) (pa_cons (pv 3) pa_nil))))) (pss_cons (ps_if (pt_cmpR (op_neD hr.units) (pv 5) (pe_callB (call_sortedD hr.units) (by rfl) B.sorted b_sorted (pa_cons (pv 5) pa_nil)) (nomark _)) (pss_one (ps_ret pe_bl)) pss_nil) (pss_cons (ps_for PassesOwn.leaving rfl (pi_list (pv 1)) (pg_tup (by rfl) (pgs_cons (pg_name (i := 2) scClosed.nd rfl (.inr rfl)) (pgs_cons (pg_name (i := 3) scClosed.nd rfl (.inl rfl)) pgs_nil))) (pss_cons (ps_if (pt_cmpR (r := rNc (DIns T.C (ReqE K T.C))) (op_nc (by exact ncG_ins GQ N.ne bQ pass0) hr2) (pe_call GP hr (by rfl) FP.m FP.F.kp (bProd FP) .nil pass0 (pa_cons (pv 0) (pa_cons (pv 3) pa_nil))) (pv 2) (nomark _)) (pss_one (ps_ret pe_bl)) pss_nil) (pss_one (ps_if (pt_cmpR (op_neD hr.units) (pe_lc (own := [("_law_one", 6)]) (g := gName 6) (tt := tTest (tOp (rIn K true) (tCB (rRepr T.C (spRepr K T.C) E0) (tCons (tOp (rMulE T.C (spMul K T.C)) (tVar 2) (tVar 6)) tNil)) (tVar 4))) rfl scClosed.nd (pi_list (pv 0)) (blkOk_by (N := NC) (sc := defScope sClosed) (by decide +kernel)) (fun _ _ _ _ _ => (pg_name (i := 6) scClosed.nd rfl (.inl rfl))) (fun _ _ _ _ _ => pts_one (pt_cmpR (r := rIn K true) op_notIn_seq (pe_callB (call_reprO GR hg hr4 N.hRepr N.fnRepr bR pass0) (by rfl) B.repr b_repr (pa_cons (pe_op (op_mulE GM (hr.mono (by decide)) N.sf N.hMul N.fnMul (bMul N.fMul) pass0) (pv 2) (pv 6)) pa_nil)) (pv 4) (by rfl))) (fun _ _ _ _ _ => pv 6)) (pe_lst pa_nil) (nomark _)) (pss_one (ps_ret pe_bl)) pss_nil)))) (pss_one (ps_ret pe_bl))))))), ?_⟩
    obtain ⟨xs, hx, hI⟩ := id hE
    have hxl := hI.len
    rw [List.length_map] at hxl
    obtain ⟨ps, hps, hpl, hpp⟩ := id hP
    have c1 : 1 ≤ c := by omega
    have c2 : c ≤ 100 := by omega
    have hok := hE.ok
    have rk : ∀ e ∈ F, okRows c e.1 ∧ okAB e.1 := fun e he => by
      obtain ⟨h1, h2⟩ := W.pr e he
      rw [← h1]
      exact ⟨prodI_ok hok _ _ h2 (idRows_ok c), prodI_ab (c := c) hab _ _ h2 (idRows_ab c)⟩
    have zero : 0 ≤ sizeLine := Nat.zero_le _
    have two : 2 ≤ sizeLine := by rw [sizeLine_eq]; decide
    have hFp : 0 < F.length := (List.getElem?_eq_some_iff.mp W.hd).1
    have h0 : 0 < G.length := List.length_pos_iff.mpr hG
    -- texts
    refine ⟨_, rfl, q, rfl, ⟨_, SqL.of hps⟩, fun D hD => ?_⟩
    refine lc_pure (walk_list (xs := ps)) hD (by omega) (fun H' e => SqL.of (e _ _ hps)) (fun j v H => ∀ e, F[j]? = some e → v = .str (efText c e.1)) (fun i H x H' y => y.1 ▸ Ext.rfl') (fun _ _ _ _ _ _ _ h => h) ?_ ?_ (fun h q => mono_rows2 h q) (fun h q => h _ _ q)
    · rintro j x H1 H2 hj e1 ⟨rfl, hx1⟩ RR hRR
      have ej : F[j]? = some F[j] := List.getElem?_eq_getElem (by omega)
      generalize F[j] = e at ej
      obtain ⟨tp, a, u, rfl, hst, hEa, hidx⟩ := (hpp j x e hx1 ej).ext e1
      obtain ⟨dx, tt', ga, _⟩ := id hEa
      have r1 := rk e (List.mem_of_getElem? ej)
      refine ⟨tp, _, rfl, hst, rfl, _, _, rfl, _, _, rfl, rfl, rfl, iteT (B := False) ?_⟩
      refine ⟨_, rfl, a, dx, _, rfl, ga, a, c, e.1, rfl, hEa, c2, r1.1, Nat.le_trans (shown_few hc r1.1 r1.2) (by decide), _, rfl, ?_⟩
      exact hRR _ _ Ext.rfl' fun e' he' => by rw [ej] at he'; cases he'; rfl
    intro ys H1 hyl hy hyv e1
    have hys : ys = (txts c F).map V.str := by
      refine List.ext_getElem? fun j => ?_
      rw [List.getElem?_map]
      by_cases hj : j < F.length
      · have ej : F[j]? = some F[j] := List.getElem?_eq_getElem hj
        have ey : ys[j]? = some ys[j] := List.getElem?_eq_getElem (by omega)
        rw [ey, txts_at ej, hyv j _ ey _ ej]
        rfl
      · rw [List.getElem?_eq_none (by omega), List.getElem?_eq_none (by rw [txts_len]; omega)]
        rfl
    subst hys
    have hnd : (txts c F).Nodup := by
      have h := W.nd
      rw [show (txts c F) = (F.map (·.1)).map (efText c) by unfold txts; rw [List.map_map]; rfl]
      rw [List.nodup_iff_pairwise_ne] at h ⊢
      rw [List.pairwise_map]
      refine h.imp_of_mem fun {A B} hA hB hne z => ?_
      obtain ⟨e, he, rfl⟩ := List.mem_map.mp hA
      obtain ⟨f, hf, rfl⟩ := List.mem_map.mp hB
      exact hne (efText_inj hc (rk e he).1 (rk f hf).1 (rk e he).2 (rk f hf).2 z)
    -- the first test
    refine ⟨_, rfl, D, txts c F, rfl, SqL.of hy, hnd, by rw [txts_len]; omega, _, rfl, D, _, rfl, .inl (SqL.of hy), rfl, false, ?_, iteF ?_⟩
    · show V.bl (!decide (V.int ((txts c F).length : Int) = V.int (((txts c F).map V.str).length : Int))) = V.bl false
      rw [List.length_map, decide_eq_true rfl]
      rfl
    have ep0 : ps[0]? = some ps[0] := List.getElem?_eq_getElem (by omega)
    obtain ⟨a0, ea0, hE0, o0, _⟩ := EffsAt.at (hI.ext e1) (List.getElem?_eq_getElem h0)
    obtain ⟨dx0, t0, g0, _⟩ := id hE0
    refine ⟨_, rfl, q, ps, 0, ps[0], rfl, rfl, SqL.of (e1 _ _ hps), atI_nat (j := 0) ep0, rfl, _, rfl, l, xs, 0, .ref a0, rfl, rfl, SqL.of (e1 _ _ hx), atI_nat (j := 0) ea0, a0, dx0, _, rfl, g0, a0, _, c, rfl, hE0, o0.1, c, rfl, c1, c2, fun H2 p e2 hp => ?_⟩
    refine ⟨zero, fun t ht => ⟨two, fun t2 ht2 => ?_⟩⟩
    have x2 : Ext H2 (upd (upd H2 t (.tup [])) t2 (.tup [.ref p, .ref t])) := (Ext.upd ht).trans (Ext.upd ht2)
    have ntt : t ≠ t2 := fun z => by subst z; rw [upd_same] at ht2; cases ht2
    have p1 : PairAt K T.C (upd (upd H2 t (.tup [])) t2 (.tup [.ref p, .ref t])) ps[0] (idRows c, []) := (hpp 0 _ _ ep0 W.hd).ext ((e1.trans e2).trans x2)
    have p2 : PairAt K T.C (upd (upd H2 t (.tup [])) t2 (.tup [.ref p, .ref t])) (.ref t2) (idRows c, []) := ⟨t2, p, t, rfl, SqT.of upd_same, hp.ext x2, idx_mk (is := []) (SqT.of (by rw [upd_ne ntt, upd_same]; rfl))⟩
    refine ⟨dPair_of (okRows_W (idRows_ok c)) p1 p2, fun H3 e3 => ⟨false, rfl, iteF ?_⟩⟩
    have x3 : Ext H H3 := ((e1.trans e2).trans x2).trans e3
    have y3 : H3 D = some (.lst ((txts c F).map V.str)) := e3 _ _ (x2 _ _ (e2 _ _ hy))
    -- keys
    refine ⟨_, rfl, q, rfl, ⟨_, SqL.of (x3 _ _ hps)⟩, fun D5 hD5 => ?_⟩
    refine lc_pure (walk_list (xs := ps)) hD5 (by omega) (fun H' e => SqL.of (e _ _ (x3 _ _ hps))) (fun j v H => ∀ e, F[j]? = some e → Dp K H v (keyD e.2)) (fun i H x H' y => y.1 ▸ Ext.rfl')
      (fun i v H H' acc e1 e2 h e he => dp_extL e1 e2 _ _ (tupy_key _) (h e he)) ?_ ?_ (fun h q => mono_rows2 h q) (fun h q => h _ _ q)
    · rintro j x H4 H5 hj e4 ⟨rfl, hx1⟩ RR hRR
      have ej : F[j]? = some F[j] := List.getElem?_eq_getElem (by omega)
      generalize F[j] = e at ej
      obtain ⟨tp, a, u, rfl, hst, hEa, hidx⟩ := (hpp j x e hx1 ej).ext (x3.trans e4)
      obtain ⟨_, z, hsu⟩ := idx_inv hidx
      cases z
      refine ⟨tp, _, rfl, hst, rfl, _, _, rfl, _, _, rfl, rfl, rfl, iteT (B := False) ?_⟩
      refine ⟨_, rfl, u, _, rfl, .inr hsu, _, rfl, two, fun p' hp' => hRR _ _ (Ext.upd hp') fun e' he' => ?_⟩
      rw [ej] at he'
      cases he'
      refine .tup (SqT.of upd_same) (.cons ?_ (.cons (dp_ext' (Ext.upd hp') hidx) .nil))
      show Dp K _ (.int ((e.2.map fun i => V.int (i : Nat)).length : Int)) (.int (e.2.length : Int))
      rw [List.length_map]
      exact .int _
    intro ks H4 hkl hk4 hkv e4
    have hkd : DpAll K H4 ks (F.map fun e : Pr => keyD e.2) := by
      refine dpAll_of (by rw [List.length_map]; omega) fun j y d ey ed => ?_
      rw [List.getElem?_map] at ed
      cases z : F[j]? with
      | none => rw [z] at ed; cases ed
      | some e => rw [z] at ed; cases ed; exact hkv j y ey e z
    have hshape : SeqAt.shaped (.list (F.map fun e : Pr => keyD e.2)) = true := keys_shaped _
    refine ⟨_, rfl, _, rfl, D5, ks, F.map fun e : Pr => keyD e.2, rfl, SqL.of hk4, hkd, ?_, ?_, ?_, ?_, fun p5 hp5 => ?_⟩
    · intro d hd d' hd'
      obtain ⟨e, _, rfl⟩ := List.mem_map.mp hd
      obtain ⟨f, _, rfl⟩ := List.mem_map.mp hd'
      exact keyD_alike _ _
    · refine .inl fun d hd => ?_
      obtain ⟨e, _, rfl⟩ := List.mem_map.mp hd
      exact ⟨_, _, rfl⟩
    · intro d hd
      obtain ⟨e, _, rfl⟩ := List.mem_map.mp hd
      exact Nat.le_trans (keyD_depth _) (by decide)
    · rw [List.pairwise_map]
      exact W.so.imp fun {e f} h => by rw [keyD_lt]; exact slt_asymm h
    have x5 : Ext H4 (upd H4 p5 (.lst ks)) := Ext.upd hp5
    refine ⟨_, _, .lst (SqL.of (x5 _ _ hk4)) (dpAll_ext' x5 hkd), .lst (SqL.of upd_same) (dpAll_ext' x5 hkd), hshape, hshape, false, ?_, iteF ?_⟩
    · rw [SeqAt.eqv_refl _ (SeqAt.canLay_of_shaped hshape)]
      rfl
    generalize upd H4 p5 (.lst ks) = H5 at x5
    have X5 : Ext H H5 := (x3.trans e4).trans x5
    have y5 : H5 D = some (.lst ((txts c F).map V.str)) := x5 _ _ (e4 _ _ y3)
    -- the loop
    refine ⟨_, rfl, q, rfl, ⟨_, SqL.of (X5 _ _ hps)⟩, for_list (K := K) (a := q) (xs := ps) (fun j σ H' => Ext H5 H' ∧ ∃ o2 o3, σ = [some (.ref l), some (.ref q), o2, o3, some (.ref D), some (.ref D5), none]) ⟨Ext.rfl', _, _, rfl⟩ (fun j σ H' _ z => SqL.of (z.1 _ _ (X5 _ _ hps))) ?_ ?_⟩
    · rintro j x σ H6 hxj ⟨e6, o2, o3, rfl⟩
      have hjl : j < F.length := by have := (List.getElem?_eq_some_iff.mp hxj).1; omega
      have ej : F[j]? = some F[j] := List.getElem?_eq_getElem hjl
      generalize F[j] = e at ej
      have X6 := X5.trans e6
      obtain ⟨tp, a, u, rfl, hst, hEa, hidx⟩ := (hpp j x e hxj ej).ext X6
      have he := List.mem_of_getElem? ej
      have r1 := rk e he
      refine ⟨tp, _, rfl, hst, rfl, _, _, rfl, _, _, rfl, rfl, ?_⟩
      refine ⟨_, rfl, _, rfl, l, c, .ref u, G, e.2, rfl, hE.ext X6, hG, hidx, (W.pr e he).2, fun H7 p7 e7 hp7 => ?_⟩
      rw [(W.pr e he).1] at hp7
      refine ⟨_, rfl, dIns_of (okRows_W r1.1) hp7 (hEa.ext e7), fun H8 e8 => ⟨false, rfl, iteF ?_⟩⟩
      have X8 : Ext H H8 := (X6.trans e7).trans e8
      have hEa8 : EfAt K T.C H8 a e.1 := (hEa.ext e7).ext e8
      have y8 : H8 D = some (.lst ((txts c F).map V.str)) := e8 _ _ (e7 _ _ (e6 _ _ y5))
      refine ⟨_, rfl, l, rfl, ⟨_, SqL.of (X8 _ _ hx)⟩, fun D9 hD9 => ?_⟩
      refine lc_it (walk_list (xs := xs)) (fun i H' => Ext H8 H' ∧ H' D9 = some (.lst [])) ⟨fun b o h => by rw [upd_ne (ne_of_none h hD9)]; exact h, upd_same⟩ (fun i H' _ z => SqL.of (z.1 _ _ (X8 _ _ hx))) ?_ ?_
      · rintro i x H9 H10 hi ⟨e9, h9⟩ ⟨rfl, hxi⟩
        have hig : i < G.length := by omega
        obtain ⟨b, eb, hEb, ob, _⟩ := EffsAt.at (hI.ext (X8.trans e9)) (List.getElem?_eq_getElem hig)
        rw [hxi] at eb
        cases eb
        have hEa9 := hEa8.ext e9
        obtain ⟨da, ta, ga, _⟩ := id hEa9
        obtain ⟨db, tb, gb, _⟩ := id hEb
        have hgi : G[i]? = some G[i] := List.getElem?_eq_getElem hig
        refine ⟨rfl, _, rfl, _, rfl, a, b, da, db, _, _, rfl, rfl, ga, gb, a, b, c, e.1, G[i], rfl, hEa9, hEb, c1, c2, r1.1, ob, fun H11 p11 e11 hp11 => ?_⟩
        obtain ⟨d11, t11, g11, _⟩ := id hp11
        obtain ⟨f, hf, ef, _⟩ := W.cl e he i _ hgi
        have rf := rk f hf
        rw [ef] at rf
        refine ⟨p11, d11, _, rfl, g11, p11, c, _, rfl, hp11, c2, rf.1, Nat.le_trans (shown_few hc rf.1 rf.2) (by decide), _, rfl, ?_⟩
        refine ⟨_, rfl, D, _, rfl, .inl (SqL.of (e11 _ _ (e9 _ _ y8))), rfl, ?_, false, ?_, iteF ?_⟩
        · rw [List.all_eq_true]
          intro z hz
          obtain ⟨z', _, rfl⟩ := List.mem_map.mp hz
          rfl
        · show V.bl (!inV (.str (efText c (jrows e.1 G[i]))) ((txts c F).map V.str)) = V.bl false
          have : inV (.str (efText c (jrows e.1 G[i]))) ((txts c F).map V.str) = true := by
            unfold inV
            rw [List.any_eq_true]
            refine ⟨.str (efText c f.1), List.mem_map.mpr ⟨_, txts_mem hf, rfl⟩, ?_⟩
            rw [ef]
            show ((efText c (jrows e.1 G[i])) == (efText c (jrows e.1 G[i]))) = true
            exact beq_self_eq_true _
          rw [this]
          rfl
        · exact ⟨e9.trans e11, e11 _ _ h9⟩
      · rintro H9 ⟨e9, h9⟩
        refine ⟨zero, fun p hp => ?_⟩
        refine ⟨.list [], .list [], .lst (SqL.of (Ext.upd hp _ _ h9)) .nil, .lst (SqL.of upd_same) .nil, ints_shaped [], ints_shaped [], false, ?_, iteF ?_⟩
        · rw [show PyData.eqv (.list []) (.list []) = true by simp [PyData.eqv, PyData.eqvAll]]
          rfl
        · exact ⟨(((e6.trans e7).trans e8).trans e9).trans (Ext.upd hp), _, _, rfl⟩
    · rintro σ H6 ⟨e6, o2, o3, rfl⟩
      exact k H6 (X5.trans e6)
end
end K30
set_option maxHeartbeats 1000000
namespace K30
open PySem L2 ClX
abbrev NF : List Str := ["_law_one", "_law_two", "_law_seen", "_law_three", "_law_ring", "_law_values"]
def ringR : List Row := [some (0, [97]), some (0, [])]
theorem bErr {K : PySem.W.Frag} {mg : Str → Option Value} (F : Df K mg "_law_error" sErr) : Binds K F.fd ["_law_values", "_law_bound"] [] := F.F.binds (ps := ["_law_values", "_law_bound"]) fun _ _ _ _ _ _ us hl => match us, hl with | [_, _], _ => rfl
theorem failR {P : Program} {w : World} {K : PySem.W.Frag} {mg : Str → Option Value} {base : Heap} {T : EfC K mg} (F : DfM K "failing" "Effect.failing" (mE 2)) (GI : FnOk P w K mg base CX0 8 F.f F.fd ["cls", "capacity"] (spFail K T.C)) : FnR P w K mg base CX0 8 F.f (spFail K T.C) :=
  (GI.raw (F.F.binds (ps := ["cls", "capacity"]) fun _ _ _ _ _ _ us hl => match us, hl with | [_, _], _ => rfl) .nil).imp fun vs H Q E h => by rw [List.append_nil]; exact h
section
variable {P : Program} {w : World} {K : PySem.W.Frag} {mg : Str → Option Value} {base : Heap}
theorem scFix : FnScope NF [] (defScope sFix) := ⟨rfl, rfl, rfl, by decide +kernel, rfl, by decide +kernel, by decide +kernel⟩
def spFix : Sp := fun vs H Q _ => vs = [] ∧ ∀ H', Ext H H' → Q (.bl true) H'
theorem dPairs_of {C : Addr} {H : Hp} {l l' : Addr} {F : List Pr} (o : ∀ e ∈ F, okW e.1) (h1 : PairsAt K C H l F) (h2 : PairsAt K C H l' F) : DList (DPair K C) (.ref l) (.ref l') H := by
  obtain ⟨ps, a1, b1, c1⟩ := h1
  obtain ⟨qs, a2, b2, c2⟩ := h2
  refine ⟨l, l', ps, qs, rfl, rfl, a1, a2, by rw [b1, b2], fun i x y hx hy => ?_⟩
  have hi : i < F.length := by have := (List.getElem?_eq_some_iff.mp hx).1; omega
  have e := List.getElem?_eq_getElem hi
  exact dPair_of (o _ (List.getElem_mem hi)) (c1 i x _ hx e) (c2 i y _ hy e)
theorem mk_pair {C : Addr} {H : Hp} {p u v : Addr} {R : List Row} {is : List Nat} (h : EfAt K C H p R) (hu : H u = none) (hv : upd H u (.tup (is.map fun i => V.int (i : Nat))) v = none) :
    PairAt K C (upd (upd H u (.tup (is.map fun i => V.int (i : Nat)))) v (.tup [.ref p, .ref u])) (.ref v) (R, is) := by
  have nuv : u ≠ v := fun z => by subst z; rw [upd_same] at hv; cases hv
  exact ⟨v, p, u, rfl, SqT.of upd_same, h.ext ((Ext.upd hu).trans (Ext.upd hv)), idx_mk (SqT.of (by rw [upd_ne nuv, upd_same]))⟩
def PL (K : PySem.W.Frag) (C : Addr) (H : Hp) (vs : List V) (F : List Pr) : Prop := vs.length = F.length ∧ ∀ (i : Nat) v e, vs[i]? = some v → F[i]? = some e → PairAt K C H v e
theorem PL.nil {C : Addr} {H : Hp} : PL K C H [] [] := ⟨rfl, fun i v e h => by simp at h⟩
theorem PL.cons {C : Addr} {H : Hp} {v : V} {e : Pr} {vs : List V} {F : List Pr} (h : PairAt K C H v e) (t : PL K C H vs F) : PL K C H (v :: vs) (e :: F) := ⟨congrArg Nat.succ t.1, fun i w f h1 h2 => by
  cases i with
  | zero => cases h1; cases h2; exact h
  | succ i => exact t.2 i w f h1 h2⟩
theorem PL.at {C : Addr} {H : Hp} {l : Addr} {vs : List V} {F : List Pr} (t : PL K C H vs F) (h : H l = some (.lst vs)) : PairsAt K C H l F := ⟨vs, h, t.1, t.2⟩
def dA : PyData := .list [.str "effect", .none]
def dB : PyData := .list [.str "effect", .int 1]
def dC : PyData := .list [.str "capacity", .int 1, .int 2]
def dI : PyData := .list [.str "integer"]
def dN : PyData := .list [.str "none"]
def dB2 : PyData := .list [.str "effect", .int 2]
theorem ne_same {d : PyData} (h : SeqAt.shaped d = true) : (!PyData.eqv d d) = false := by rw [SeqAt.eqv_refl _ (SeqAt.canLay_of_shaped h)]; rfl
instance decPr : DecidableEq Pr := inferInstance
instance decPrs : DecidableEq (List Pr) := @instDecidableEqList Pr decPr
instance decPrO : DecidableEq (Option (List Pr)) := inferInstance
theorem gen2000 : ∃ F, genR 1 [idRows 1, idRows 1] 2000 = some F := Option.isSome_iff_exists.mp (by decide +kernel)
theorem genRing : genR 1 [ringR] 1000 = some [(idRows 1, []), (ringR, [0]), (jrows ringR ringR, [0, 0])] := by decide +kernel
theorem genFive : genR 1 [idRows 1, idRows 1, failRows 1, idRows 1, idRows 1] 1000 = some [(idRows 1, []), (failRows 1, [2])] := by decide +kernel
theorem ring3 : jrows (jrows ringR ringR) ringR = ringR := by decide +kernel
theorem ring_ok : okRows 1 ringR := by
  refine ⟨rfl, fun i r h k w e => ?_⟩
  match i, h with
  | 0, h => cases h; cases e; exact ⟨Nat.le_refl _, by intro c hc; rw [List.mem_singleton.mp hc]; exact ⟨by decide, by decide⟩, by decide⟩
  | 1, h => cases h; cases e; exact ⟨Nat.zero_le _, (by intro c hc; cases hc), by decide⟩
theorem ok_fix (F : Df K mg "_law_fixed_right" sFix) (B : Nb mg) (T : EfC K mg) (N : EfM K mg T) (GI0 : FnOk P w K mg base CX0 8 N.fId.f N.fId.fd ["cls", "capacity"] (spIdent K T.C)) (GF0 : FnOk P w K mg base CX0 8 N.fFail.f N.fFail.fd ["cls", "capacity"] (spFail K T.C))
    (GM : FnOk P w K mg base CX0 8 N.fMul.f N.fMul.fd ["self", "other"] (spMul K T.C)) (GQ : FnOk P w K mg base CX0 1 N.fEq.f N.fEq.fd ["self", "other"] (spEq (ReqE K T.C))) (GN : FnOk P w K mg base CX0 6 T.fI.f T.fI.fd ["self", "capacity", "rows"] (spInit K T.C))
    (FX : Df K mg "_law_error" sErr) (GX : FnOk P w K mg base CX0 9 FX.f FX.fd ["_law_values", "_law_bound"] (spErr K T.C)) (FG : GenD K mg) {Ci Cm Cn CL : Addr} (GG : GenR P w K mg base 8 FG.f T.C Ci Cm Cn CL) : FnOk P w K mg base CX0 10 F.f F.fd [] spFix := by
  have GI : FnR P w K mg base CX0 8 N.fId.f (spIdent K T.C) := identR N.fId GI0
  have GF : FnR P w K mg base CX0 8 N.fFail.f (spFail K T.C) := failR N.fFail GF0
  have bQ := bEq N.fEq
  refine F.F.ok scFix (fun vs H Q E h => ?_) (fun cdv A outer s H vs Q E hr h => ?_)
  · obtain ⟨rfl, _⟩ := h
    rfl
  · obtain ⟨rfl, k⟩ := h
    have hr8 : Room 8 (A.deeper (PyProof.Rows.envOfC "_law_fixed_right" (defScope sFix) s.heap.objs.size F.f cdv)) := hr.mono (by decide)
    have hr7 : Room 7 (A.deeper (PyProof.Rows.envOfC "_law_fixed_right" (defScope sFix) s.heap.objs.size F.f cdv)) := hr.mono (by decide)
    have hr2 : Room 2 (A.deeper (PyProof.Rows.envOfC "_law_fixed_right" (defScope sFix) s.heap.objs.size F.f cdv)) := hr.mono (by decide)
    have hr3 : Room 3 (A.deeper (PyProof.Rows.envOfC "_law_fixed_right" (defScope sFix) s.heap.objs.size F.f cdv)) := hr.mono (by decide)
    refine ⟨_, (pss_cons (ps_par (i := 0) (j := 1) rfl scFix.nd rfl rfl (by decide) rfl rfl (pa_cons (pe_cmeth (pe_glob (v := .ref T.C) (by rfl) T.m rfl) N.rd N.mId GI hr8 pass0 (pa_cons pe_int pa_nil)) (pa_cons (pe_cmeth (pe_glob (v := .ref T.C) (by rfl) T.m rfl) N.rd N.mId GI hr8 pass0 (pa_cons pe_int pa_nil)) pa_nil)) (by rfl)) (pss_cons (ps_set (i := 2) scFix.nd rfl (Or.inl rfl) (pe_lst (pa_cons (pe_call GX hr (by rfl) FX.m FX.F.kp (bErr FX) .nil pass0 (pa_cons (pe_lst pa_nil) (pa_cons pe_int pa_nil))) (pa_cons (pe_call GX hr (by rfl) FX.m FX.F.kp (bErr FX) .nil pass0 (pa_cons (pe_lst (pa_cons (pv 0) (pa_cons pe_int pa_nil))) (pa_cons pe_int pa_nil))) (pa_cons (pe_call GX hr (by rfl) FX.m FX.F.kp (bErr FX) .nil pass0 (pa_cons (pe_lst (pa_cons (pv 0) (pa_cons (pv 1) pa_nil))) (pa_cons pe_int pa_nil))) (pa_cons (pe_call GX hr (by rfl) FX.m FX.F.kp (bErr FX) .nil pass0 (pa_cons (pe_lst (pa_cons (pv 0) (pa_cons (pv 0) pa_nil))) (pa_cons pe_int pa_nil))) pa_nil)))))) (pss_cons (ps_if (pt_cmpR (op_neD hr.units) (pv 2) (pe_lst (pa_cons (pe_lst (pa_cons pe_str (pa_cons pe_non pa_nil))) (pa_cons (pe_lst (pa_cons pe_str (pa_cons pe_int pa_nil))) (pa_cons (pe_lst (pa_cons pe_str (pa_cons pe_int (pa_cons pe_int pa_nil)))) (pa_cons (pe_lst (pa_cons pe_str pa_nil)) pa_nil))))) (nomark _)) (pss_one (ps_ret pe_bl)) pss_nil) (pss_cons (ps_if (PW.pt (pw_or (pt_cmpR (op_neD hr.units) (pe_call GX hr (by rfl) FX.m FX.F.kp (bErr FX) .nil pass0 (pa_cons (pe_lst (pa_cons (pv 0) (pa_cons (pv 0) pa_nil))) (pa_cons pe_int pa_nil))) (pe_lst (pa_cons pe_str pa_nil)) (nomark _)) (pw_or1 (pt_cmpR (op_neD hr.units) (pe_call GX hr (by rfl) FX.m FX.F.kp (bErr FX) .nil pass0 (pa_cons (pe_lst (pa_cons (pv 0) (pa_cons (pv 0) pa_nil))) (pa_cons pe_int pa_nil))) (pe_lst (pa_cons pe_str pa_nil)) (nomark _))))) (pss_one (ps_ret pe_bl)) pss_nil) (pss_cons (ps_set (i := 3) scFix.nd rfl (Or.inl rfl) (pe_lst (pa_cons (pe_lst (pa_cons (pv 0) (pa_cons (pv 1) (pa_cons pe_int pa_nil)))) (pa_cons (pe_lst (pa_cons (pv 0) (pa_cons (pv 0) (pa_cons (pv 1) pa_nil)))) (pa_cons (pe_lst (pa_cons (pv 0) (pa_cons (pv 1) (pa_cons (pe_cmeth (pe_glob (v := .ref T.C) (by rfl) T.m rfl) N.rd N.mId GI hr8 pass0 (pa_cons pe_int pa_nil)) pa_nil)))) pa_nil))))) (pss_cons (ps_if (pt_cmpR (op_neD hr.units) (pe_lc (own := [("_law_values", 5)]) (g := gName 5) (tt := tYes) rfl scFix.nd (pi_list (pv 3)) (blkOk_by (N := NF) (sc := defScope sFix) (by decide +kernel)) (fun _ _ _ _ _ => (pg_name (i := 5) scFix.nd rfl (.inl rfl))) (fun _ _ _ _ _ => pts_nil) (fun _ _ _ _ _ => (pe_call GX hr (by rfl) FX.m FX.F.kp (bErr FX) .nil pass0 (pa_cons (pv 5) (pa_cons pe_int pa_nil))))) (pe_lst (pa_cons (pe_lst (pa_cons pe_str (pa_cons pe_int pa_nil))) (pa_cons (pe_lst (pa_cons pe_str (pa_cons pe_int (pa_cons pe_int pa_nil)))) (pa_cons (pe_lst (pa_cons pe_str (pa_cons pe_int (pa_cons pe_int pa_nil)))) pa_nil)))) (nomark _)) (pss_one (ps_ret pe_bl)) pss_nil) (pss_cons (ps_set (i := 4) scFix.nd rfl (Or.inl rfl) (pe_make T.M GN hr7 (by rfl) T.m (bInit T) .nil pass0 (pa_cons pe_int (pa_cons (pe_lst (pa_cons (pe_tup (pa_cons pe_int (pa_cons pe_str pa_nil))) (pa_cons (pe_tup (pa_cons pe_int (pa_cons pe_str pa_nil))) pa_nil))) pa_nil)))) (pss_cons (ps_if (PW.pt (pw_or (pt_cmpR (r := rNc (DList (DPair K T.C))) (op_nc (ncPairs (X := (cxOf CX0 P w K mg base NF "_law_fixed_right" (defScope sFix) F.f cdv A outer s H E).nox) T N GQ) hr3) (pe_gen (E := fun _ => E0) GG hr8 (by rfl) FG.m FG.kp (fun σ pins H s e s' => passL pins σ H s e s') (pa_cons (pv 4) pa_nil)) (pe_lst (pa_cons (pe_tup (pa_cons (pv 0) (pa_cons (pe_tup pa_nil) pa_nil))) (pa_cons (pe_tup (pa_cons (pv 4) (pa_cons (pe_tup (pa_cons pe_int pa_nil)) pa_nil))) (pa_cons (pe_tup (pa_cons (pe_op (op_mulE GM hr8 N.sf N.hMul N.fnMul (bMul N.fMul) pass0) (pv 4) (pv 4)) (pa_cons (pe_tup (pa_cons pe_int (pa_cons pe_int pa_nil))) pa_nil))) pa_nil)))) (nomark _)) (pw_or1 (pt_cmpR (r := rNc (DIns T.C (ReqE K T.C))) (op_nc (by exact ncG_ins GQ N.ne bQ pass0) hr2) (pe_op (op_mulE GM hr8 N.sf N.hMul N.fnMul (bMul N.fMul) pass0) (pe_op (op_mulE GM hr8 N.sf N.hMul N.fnMul (bMul N.fMul) pass0) (pv 4) (pv 4)) (pv 4)) (pv 4) (nomark _))))) (pss_one (ps_ret pe_bl)) pss_nil) (pss_cons (ps_if (pt_cmpR (r := rNc (DList (DPair K T.C))) (op_nc (ncPairs (X := (cxOf CX0 P w K mg base NF "_law_fixed_right" (defScope sFix) F.f cdv A outer s H E).nox) T N GQ) hr3) (pe_gen (E := fun _ => E0) GG hr8 (by rfl) FG.m FG.kp (fun σ pins H s e s' => passL pins σ H s e s') (pa_cons (pv 0) (pa_cons (pv 0) (pa_cons (pe_cmeth (pe_glob (v := .ref T.C) (by rfl) T.m rfl) N.rd N.mFail GF hr8 pass0 (pa_cons pe_int pa_nil)) (pa_cons (pv 0) (pa_cons (pv 0) pa_nil)))))) (pe_lst (pa_cons (pe_tup (pa_cons (pv 0) (pa_cons (pe_tup pa_nil) pa_nil))) (pa_cons (pe_tup (pa_cons (pe_cmeth (pe_glob (v := .ref T.C) (by rfl) T.m rfl) N.rd N.mFail GF hr8 pass0 (pa_cons pe_int pa_nil)) (pa_cons (pe_tup (pa_cons pe_int pa_nil)) pa_nil))) pa_nil))) (nomark _)) (pss_one (ps_ret pe_bl)) pss_nil) (pss_one (ps_ret pe_bl))))))))))), ?_⟩
    have zero : 0 ≤ sizeLine := Nat.zero_le _
    have big : ∀ n : Nat, n ≤ 10 → n ≤ sizeLine := fun n hn => by rw [sizeLine_eq]; omega
    refine ⟨rfl, 1, rfl, by decide, by decide, fun H1 p1 e1 h1 => ⟨rfl, 2, rfl, by decide, by decide, fun H2 p2 e2 h2 => ⟨_, _, rfl, ?_⟩⟩⟩
    have h1 := h1.ext e2
    have it1 : ∀ {H'}, Ext H2 H' → ItemAt K T.C H' (.ref p1) (.inl (1, idRows 1)) := fun e => ⟨p1, rfl, h1.ext e, idRows_ok 1, by decide, by decide⟩
    have it2 : ∀ {H'}, Ext H2 H' → ItemAt K T.C H' (.ref p2) (.inl (2, idRows 2)) := fun e => ⟨p2, rfl, h2.ext e, idRows_ok 2, by decide, by decide⟩
    have n01 : ¬ (1 ≤ (0 : Int) ∧ (0 : Int) ≤ 2000) := by omega
    -- seen
    refine ⟨zero, fun l1 n1 => ⟨l1, 0, [], [], rfl, upd_same, .nil, .inl rfl, fun _ z => absurd z n01, fun H3 s1 x3 m3 g3 => ?_⟩⟩
    have e3 : Ext H2 H3 := (Ext.upd n1).trans x3
    refine ⟨_, rfl, big 2 (by decide), fun l2 n2 => ⟨l2, 0, [.ref p1, .int 5], [.inl (1, idRows 1), .inr 5], rfl, upd_same, .cons (it1 (e3.trans (Ext.upd n2))) (.cons rfl .nil), .inr (.inl rfl), fun _ z => absurd z n01, fun H4 s2 x4 m4 g4 => ?_⟩⟩
    have e4 : Ext H3 H4 := (Ext.upd n2).trans x4
    refine ⟨_, rfl, _, rfl, big 2 (by decide), fun l3 n3 => ⟨l3, 0, [.ref p1, .ref p2], [.inl (1, idRows 1), .inl (2, idRows 2)], rfl, upd_same, .cons (it1 ((e3.trans e4).trans (Ext.upd n3))) (.cons (it2 ((e3.trans e4).trans (Ext.upd n3))) .nil), .inr (.inl rfl), fun _ z => absurd z n01, fun H5 s3 x5 m5 g5 => ?_⟩⟩
    have e5 : Ext H4 H5 := (Ext.upd n3).trans x5
    have e35 := (e3.trans e4).trans e5
    refine ⟨_, rfl, _, rfl, big 2 (by decide), fun l4 n4 => ⟨l4, 0, [.ref p1, .ref p1], [.inl (1, idRows 1), .inl (1, idRows 1)], rfl, upd_same, .cons (it1 (e35.trans (Ext.upd n4))) (.cons (it1 (e35.trans (Ext.upd n4))) .nil), .inr (.inl rfl), fun _ z => absurd z n01, fun H6 s4 x6 m6 g6 => ?_⟩⟩
    have e6 : Ext H5 H6 := (Ext.upd n4).trans x6
    refine ⟨big 4 (by decide), fun ls ns => ?_⟩
    -- the first test
    refine ⟨_, rfl, big 2 (by decide), fun a1 na1 => ⟨big 2 (by decide), fun a2 na2 => ⟨big 3 (by decide), fun a3 na3 => ⟨big 1 (by decide), fun a4 na4 => ⟨big 4 (by decide), fun a5 na5 => ?_⟩⟩⟩⟩⟩
    have y1 := ((((Ext.upd (o := HO.lst [.str "effect", .non]) na1).trans (Ext.upd (o := HO.lst [.str "effect", .int 1]) na2)).trans (Ext.upd (o := HO.lst [.str "capacity", .int 1, .int 2]) na3)).trans (Ext.upd (o := HO.lst [.str "integer"]) na4)).trans (Ext.upd (o := HO.lst [.ref a1, .ref a2, .ref a3, .ref a4]) na5)
    have sA : SeqAt.shaped (.list [dA, dB, dC, dI]) = true := by decide +kernel
    refine ⟨.list [dA, dB, dC, dI], .list [dA, dB, dC, dI], dp_ext' y1 (.lst (SqL.of upd_same) (.cons ?_ (.cons ?_ (.cons ?_ (.cons ?_ .nil))))), .lst (SqL.of upd_same) (.cons ?_ (.cons ?_ (.cons ?_ (.cons ?_ .nil)))), sA, sA, false, congrArg V.bl (ne_same sA), iteF ?_⟩
    · exact .lst (SqL.of ((((e4.trans e5).trans e6).trans (Ext.upd ns)) _ _ g3)) (.cons (.str _) (.cons .non .nil))
    · exact .lst (SqL.of (((e5.trans e6).trans (Ext.upd ns)) _ _ g4)) (.cons (.str _) (.cons (.int _) .nil))
    · exact .lst (SqL.of ((e6.trans (Ext.upd ns)) _ _ g5)) (.cons (.str _) (.cons (.int _) (.cons (.int _) .nil)))
    · exact .lst (SqL.of ((Ext.upd ns) _ _ g6)) (.cons (.str _) .nil)
    · exact .lst (SqL.of (((((Ext.upd na2).trans (Ext.upd na3)).trans (Ext.upd na4)).trans (Ext.upd na5)) _ _ upd_same)) (.cons (.str _) (.cons .non .nil))
    · exact .lst (SqL.of ((((Ext.upd na3).trans (Ext.upd na4)).trans (Ext.upd na5)) _ _ upd_same)) (.cons (.str _) (.cons (.int _) .nil))
    · exact .lst (SqL.of (((Ext.upd na4).trans (Ext.upd na5)) _ _ upd_same)) (.cons (.str _) (.cons (.int _) (.cons (.int _) .nil)))
    · exact .lst (SqL.of ((Ext.upd na5) _ _ upd_same)) (.cons (.str _) .nil)
    have z1 := ((e35.trans e6).trans (Ext.upd (o := HO.lst [.ref s1, .ref s2, .ref s3, .ref s4]) ns)).trans y1
    -- the second test
    refine ⟨_, rfl, _, rfl, big 2 (by decide), fun l5 n5 => ⟨l5, 2001, [.ref p1, .ref p1], [.inl (1, idRows 1), .inl (1, idRows 1)], rfl, upd_same, .cons (it1 (z1.trans (Ext.upd n5))) (.cons (it1 (z1.trans (Ext.upd n5))) .nil), .inr (.inl rfl), fun _ z => absurd z (by omega), fun H7 s5 x7 m7 g7 => ?_⟩⟩
    have z2 : Ext H2 H7 := (z1.trans (Ext.upd n5)).trans x7
    refine ⟨big 1 (by decide), fun a6 na6 => ?_⟩
    have sI : SeqAt.shaped dI = true := by decide +kernel
    have sN : SeqAt.shaped dN = true := by decide +kernel
    refine ⟨dI, dI, .lst (SqL.of (Ext.upd na6 _ _ g7)) (.cons (.str _) .nil), .lst (SqL.of upd_same) (.cons (.str _) .nil), sI, sI, false, congrArg V.bl (ne_same sI), iteF ?_⟩
    have z3 := z2.trans (Ext.upd (o := HO.lst [.str "integer"]) na6)
    refine ⟨_, rfl, _, rfl, big 2 (by decide), fun l6 n6 => ⟨l6, 2000, [.ref p1, .ref p1], [.inl (1, idRows 1), .inl (1, idRows 1)], rfl, upd_same, .cons (it1 (z3.trans (Ext.upd n6))) (.cons (it1 (z3.trans (Ext.upd n6))) .nil), .inr (.inl rfl), fun _ _ => ?_, fun H8 s6 x8 m8 g8 => ?_⟩⟩
    · obtain ⟨F2, hF2⟩ := gen2000
      exact ⟨1, [idRows 1, idRows 1], 2000, F2, rfl, by decide, by decide, by simp, rfl, hF2⟩
    have z4 : Ext H2 H8 := (z3.trans (Ext.upd n6)).trans x8
    refine ⟨big 1 (by decide), fun a7 na7 => ?_⟩
    refine ⟨dN, dN, .lst (SqL.of (Ext.upd na7 _ _ g8)) (.cons (.str _) .nil), .lst (SqL.of upd_same) (.cons (.str _) .nil), sN, sN, false, congrArg V.bl (ne_same sN), iteF ?_⟩
    have z5 := z4.trans (Ext.upd (o := HO.lst [.str "none"]) na7)
    -- three
    refine ⟨_, rfl, _, rfl, big 3 (by decide), fun l7 n7 => ⟨_, rfl, _, rfl, _, rfl, big 3 (by decide), fun l8 n8 => ⟨_, rfl, _, rfl, rfl, 3, rfl, by decide, by decide, fun H9 p3 e9 h3 => ⟨big 3 (by decide), fun l9 n9 => ⟨big 3 (by decide), fun lt nlt => ?_⟩⟩⟩⟩⟩
    have e9' := ((Ext.upd (o := HO.lst [.ref p1, .ref p2, .int 5]) n7).trans (Ext.upd (o := HO.lst [.ref p1, .ref p1, .ref p2]) n8)).trans e9
    have eT := (Ext.upd (o := HO.lst [.ref p1, .ref p2, .ref p3]) n9).trans (Ext.upd (o := HO.lst [.ref l7, .ref l8, .ref l9]) nlt)
    have z6 := (z5.trans e9').trans eT
    have h3 := h3.ext eT
    have f7 := eT _ _ (e9 _ _ ((Ext.upd (o := HO.lst [.ref p1, .ref p1, .ref p2]) n8) l7 (HO.lst [.ref p1, .ref p2, .int 5]) upd_same))
    have f8 := eT _ _ (e9 l8 (HO.lst [.ref p1, .ref p1, .ref p2]) upd_same)
    have f9 := (Ext.upd (o := HO.lst [.ref l7, .ref l8, .ref l9]) nlt) l9 (HO.lst [.ref p1, .ref p2, .ref p3]) upd_same
    let rv : Nat → List V := fun j => match j with
      | 0 => [.str "effect", .int 2]
      | _ => [.str "capacity", .int 1, .int 2]
    have vals : ∀ (j : Nat) v, [V.ref l7, .ref l8, .ref l9][j]? = some v → ∃ l xs its, v = .ref l ∧ upd (upd H9 l9 (.lst [.ref p1, .ref p2, .ref p3])) lt (.lst [.ref l7, .ref l8, .ref l9]) l = some (.lst xs) ∧
        ItemsAt K T.C (upd (upd H9 l9 (.lst [.ref p1, .ref p2, .ref p3])) lt (.lst [.ref l7, .ref l8, .ref l9])) xs its ∧ its.length = 3 ∧ (checkE its = .ok → False) ∧ errV its 9 = rv j := by
      intro j v hj
      match j, hj with
      | 0, hj => cases hj; exact ⟨l7, _, [.inl (1, idRows 1), .inl (2, idRows 2), .inr 5], rfl, f7, .cons (it1 z6) (.cons (it2 z6) (.cons rfl .nil)), rfl, (fun z => nomatch (show Chk.bad (some 2) = Chk.ok from z)), rfl⟩
      | 1, hj => cases hj; exact ⟨l8, _, [.inl (1, idRows 1), .inl (1, idRows 1), .inl (2, idRows 2)], rfl, f8, .cons (it1 z6) (.cons (it1 z6) (.cons (it2 z6) .nil)), rfl, (fun z => nomatch (show Chk.cap 1 2 = Chk.ok from z)), rfl⟩
      | 2, hj => cases hj; exact ⟨l9, _, [.inl (1, idRows 1), .inl (2, idRows 2), .inl (3, idRows 3)], rfl, f9, .cons (it1 z6) (.cons (it2 z6) (.cons ⟨p3, rfl, h3, idRows_ok 3, by decide, by decide⟩ .nil)), rfl, (fun z => nomatch (show Chk.cap 1 2 = Chk.ok from z)), rfl⟩
      | j + 3, hj => simp at hj
    generalize hHT : upd (upd H9 l9 (.lst [.ref p1, .ref p2, .ref p3])) lt (.lst [.ref l7, .ref l8, .ref l9]) = HT at z6 vals f7 f8 f9 h3 ⊢
    have fT : HT lt = some (.lst [.ref l7, .ref l8, .ref l9]) := by rw [← hHT]; exact upd_same
    refine ⟨_, rfl, lt, rfl, ⟨_, SqL.of fT⟩, fun D hD => ?_⟩
    refine lc_it (walk_list (xs := [.ref l7, .ref l8, .ref l9])) (fun i H' => Ext HT H' ∧ ∃ acc, H' D = some (.lst acc) ∧ acc.length = i ∧ ∀ (j : Nat) y, acc[j]? = some y → ∃ l', y = .ref l' ∧ l' ≠ D ∧ H' l' = some (.lst (rv j)))
      ⟨Ext.upd hD, [], upd_same, rfl, fun j y hj => by simp at hj⟩ (fun i H' _ z => SqL.of (z.1 _ _ fT)) ?_ ?_
    · rintro i x Ha Hb hi ⟨ea, acc, ha, hal, hacc⟩ ⟨rfl, hx⟩
      obtain ⟨l, xs, its, rfl, g1, g2, g3', g4', g5'⟩ := vals i x hx
      refine ⟨rfl, iteT (B := False) ?_⟩
      refine ⟨_, rfl, l, 9, xs, its, rfl, ea _ _ g1, g2.ext ea, .inr (.inr g3'), fun z => (g4' z).elim, fun Hc lc xc nc gc => ⟨acc, xc _ _ ha, by rw [hal, sizeLine_eq]; have : i < 3 := hi; omega, ?_⟩⟩
      have nlc : lc ≠ D := fun z => by subst z; rw [ha] at nc; cases nc
      refine ⟨fun b o hb => by rw [upd_ne (ne_of_none hb hD)]; exact xc _ _ (ea _ _ hb), acc ++ [.ref lc], upd_same, by rw [List.length_append, hal]; rfl, fun j y hj => ?_⟩
      by_cases hjl : j < acc.length
      · rw [List.getElem?_append_left hjl] at hj
        obtain ⟨l', ey, nl', hl'⟩ := hacc j y hj
        exact ⟨l', ey, nl', by rw [upd_ne nl']; exact xc _ _ hl'⟩
      · have : j = acc.length := by
          have := (List.getElem?_eq_some_iff.mp hj).1
          rw [List.length_append] at this
          simp at this
          omega
        subst this
        rw [List.getElem?_append_right (Nat.le_refl _), Nat.sub_self] at hj
        cases hj
        refine ⟨lc, rfl, nlc, ?_⟩
        rw [upd_ne nlc, gc, g5', hal]
    rintro Ha ⟨ea, acc, ha, hal, hacc⟩
    obtain ⟨y0, y1, y2, rfl⟩ := list3 (show acc.length = 2 + 1 from hal)
    obtain ⟨r0, rfl, _, q0⟩ := hacc 0 _ rfl
    obtain ⟨r1, rfl, _, q1⟩ := hacc 1 _ rfl
    obtain ⟨r2, rfl, _, q2⟩ := hacc 2 _ rfl
    refine ⟨big 2 (by decide), fun b1 nb1 => ⟨big 3 (by decide), fun b2 nb2 => ⟨big 3 (by decide), fun b3 nb3 => ⟨big 3 (by decide), fun b4 nb4 => ?_⟩⟩⟩⟩
    have yb := (((Ext.upd (o := HO.lst [.str "effect", .int 2]) nb1).trans (Ext.upd (o := HO.lst [.str "capacity", .int 1, .int 2]) nb2)).trans (Ext.upd (o := HO.lst [.str "capacity", .int 1, .int 2]) nb3)).trans (Ext.upd (o := HO.lst [.ref b1, .ref b2, .ref b3]) nb4)
    have s3' : SeqAt.shaped (.list [dB2, dC, dC]) = true := by decide +kernel
    refine ⟨.list [dB2, dC, dC], .list [dB2, dC, dC], dp_ext' yb (.lst (SqL.of ha) (.cons ?_ (.cons ?_ (.cons ?_ .nil)))), .lst (SqL.of upd_same) (.cons ?_ (.cons ?_ (.cons ?_ .nil))), s3', s3', false, congrArg V.bl (ne_same s3'), iteF ?_⟩
    · exact .lst (SqL.of q0) (.cons (.str _) (.cons (.int _) .nil))
    · exact .lst (SqL.of q1) (.cons (.str _) (.cons (.int _) (.cons (.int _) .nil)))
    · exact .lst (SqL.of q2) (.cons (.str _) (.cons (.int _) (.cons (.int _) .nil)))
    · exact .lst (SqL.of ((((Ext.upd nb2).trans (Ext.upd nb3)).trans (Ext.upd nb4)) _ _ upd_same)) (.cons (.str _) (.cons (.int _) .nil))
    · exact .lst (SqL.of (((Ext.upd nb3).trans (Ext.upd nb4)) _ _ upd_same)) (.cons (.str _) (.cons (.int _) (.cons (.int _) .nil)))
    · exact .lst (SqL.of ((Ext.upd nb4) _ _ upd_same)) (.cons (.str _) (.cons (.int _) (.cons (.int _) .nil)))
    have z7 := (z6.trans ea).trans yb
    -- ring
    refine ⟨big 2 (by decide), fun t1 nt1 => ⟨big 2 (by decide), fun t2 nt2 => ⟨big 2 (by decide), fun lr nlr => ?_⟩⟩⟩
    intro x dx hx hdx hne
    have yr := ((Ext.upd (o := HO.tup [.int 0, .str "a"]) nt1).trans (Ext.upd (o := HO.tup [.int 0, .str ""]) nt2)).trans (Ext.upd (o := HO.lst [.ref t1, .ref t2]) nlr)
    have em : ∀ {Hm : Hp}, Hm x = none → Hm dx = none → Ext Hm (upd (upd Hm dx (.own x)) x (.ins T.C dx [])) := fun a b b' o h => by rw [upd_ne (ne_of_none h a), upd_ne (ne_of_none h b)]; exact h
    refine ⟨x, dx, lr, 1, [.ref t1, .ref t2], ringR, rfl, upd_same, .inr (em hx hdx _ _ upd_same), .cons ?_ (.cons ?_ .nil), by decide, by decide, ring_ok, fun Hr hR gR => ⟨rfl, ?_⟩⟩
    · refine dp_ext' (em hx hdx) (row_mk (SqT.of ?_))
      exact ((Ext.upd nt2).trans (Ext.upd nlr)) t1 (HO.tup [.int 0, .str "a"]) upd_same
    · refine dp_ext' (em hx hdx) (row_mk (SqT.of ?_))
      exact (Ext.upd nlr) t2 (HO.tup [.int 0, .str ""]) upd_same
    have eR : Ext _ Hr := fun b o h => gR b o (em hx hdx b o h) (ne_of_none h hx)
    have z8 := (z7.trans yr).trans eR
    have h1r := h1.ext z8
    -- generated(ring)
    refine ⟨_, rfl, [.inl (1, ringR)], .cons ⟨x, rfl, hR, ring_ok, by decide, by decide⟩ .nil, by decide, ?_⟩
    rw [show checkE [.inl (1, ringR)] = .ok from rfl]
    refine ⟨fun z => absurd (by omega) z, fun _ => ⟨1, [ringR], 1000, rfl, by decide, by decide, by simp, rfl, ?_⟩⟩
    rw [genRing]
    intro Hg lg eg hPg
    have h1g := h1r.ext eg
    have hRg := hR.ext eg
    refine ⟨_, rfl, zero, fun u1 nu1 => ⟨big 2 (by decide), fun v1 nv1 => ⟨_, rfl, big 1 (by decide), fun u2 nu2 => ⟨big 2 (by decide), fun v2 nv2 => ?_⟩⟩⟩⟩
    have P1 := mk_pair (is := []) h1g nu1 nv1
    have w1 := (Ext.upd (o := HO.tup []) nu1).trans (Ext.upd (o := HO.tup [.ref p1, .ref u1]) nv1)
    have P2 := mk_pair (is := [0]) (hRg.ext w1) nu2 nv2
    have w2 := (Ext.upd (o := HO.tup [.int 0]) nu2).trans (Ext.upd (o := HO.tup [.ref x, .ref u2]) nv2)
    have hR2 := (hRg.ext w1).ext w2
    obtain ⟨dr, tr, gr, _⟩ := id hR2
    refine ⟨_, rfl, _, rfl, x, x, dr, dr, _, _, rfl, rfl, gr, gr, x, x, 1, ringR, ringR, rfl, hR2, hR2, by decide, by decide, ring_ok, ring_ok, fun Hm pm em' hm => ?_⟩
    refine ⟨big 2 (by decide), fun u3 nu3 => ⟨big 2 (by decide), fun v3 nv3 => ⟨big 3 (by decide), fun lv nlv => ?_⟩⟩⟩
    have P3 := mk_pair (is := [0, 0]) hm nu3 nv3
    have w3 := (Ext.upd (o := HO.tup [.int 0, .int 0]) nu3).trans (Ext.upd (o := HO.tup [.ref pm, .ref u3]) nv3)
    have w4 := Ext.upd (o := HO.lst [.ref v1, .ref v2, .ref v3]) nlv
    have okF1 : ∀ e ∈ ([(idRows 1, []), (ringR, [0]), (jrows ringR ringR, [0, 0])] : List Pr), okW e.1 := by
      intro e he
      simp only [List.mem_cons, List.not_mem_nil, or_false] at he
      rcases he with rfl | rfl | rfl
      · exact okRows_W (idRows_ok 1)
      · exact okRows_W ring_ok
      · exact okRows_W (jrows_ok ring_ok ring_ok)
    refine ⟨dPairs_of okF1 (hPg.ext ((((w1.trans w2).trans em').trans w3).trans w4)) (PL.at (.cons (P1.ext (((w2.trans em').trans w3).trans w4)) (.cons (P2.ext ((em'.trans w3).trans w4)) (.cons (P3.ext w4) .nil))) upd_same), fun Hn en => ⟨false, rfl, iteF ?_⟩⟩
    have z9 := ((((z8.trans eg).trans w1).trans w2).trans em').trans ((w3.trans w4).trans en)
    have hRn := (hR2.ext em').ext ((w3.trans w4).trans en)
    obtain ⟨dr2, tr2, gr2, _⟩ := id hRn
    refine ⟨_, rfl, _, rfl, x, x, dr2, dr2, _, _, rfl, rfl, gr2, gr2, x, x, 1, ringR, ringR, rfl, hRn, hRn, by decide, by decide, ring_ok, ring_ok, fun Ho po eo ho => ?_⟩
    have hRo := hRn.ext eo
    obtain ⟨dr3, tr3, gr3, _⟩ := id hRo
    obtain ⟨dr4, tr4, gr4, _⟩ := id ho
    refine ⟨_, rfl, po, x, dr4, dr3, _, _, rfl, rfl, gr4, gr3, po, x, 1, _, ringR, rfl, ho, hRo, by decide, by decide, jrows_ok ring_ok ring_ok, ring_ok, fun Hq pq eq hq => ?_⟩
    rw [ring3] at hq
    refine ⟨_, rfl, dIns_of (okRows_W ring_ok) hq (hRo.ext eq), fun Hs es => ⟨false, rfl, iteF ?_⟩⟩
    have z10 := ((z9.trans eo).trans eq).trans es
    have h1s := h1.ext z10
    have i1s := it1 z10
    -- five
    refine ⟨_, rfl, _, rfl, rfl, 1, rfl, by decide, by decide, fun Hf pf ef hf => ?_⟩
    have i1f := i1s.ext ef
    have h1f := h1s.ext ef
    refine ⟨_, rfl, _, rfl, [.inl (1, idRows 1), .inl (1, idRows 1), .inl (1, failRows 1), .inl (1, idRows 1), .inl (1, idRows 1)], .cons i1f (.cons i1f (.cons ⟨pf, rfl, hf, failRows_ok 1, by decide, by decide⟩ (.cons i1f (.cons i1f .nil)))), by decide, ?_⟩
    rw [show checkE [.inl (1, idRows 1), .inl (1, idRows 1), .inl (1, failRows 1), .inl (1, idRows 1), .inl (1, idRows 1)] = .ok from rfl]
    refine ⟨fun z => absurd (by omega) z, fun _ => ⟨1, [idRows 1, idRows 1, failRows 1, idRows 1, idRows 1], 1000, rfl, by decide, by decide, by simp, rfl, ?_⟩⟩
    rw [genFive]
    intro Hg2 lg2 eg2 hPg2
    have h1g2 := h1f.ext eg2
    refine ⟨_, rfl, zero, fun u4 nu4 => ⟨big 2 (by decide), fun v4 nv4 => ⟨rfl, 1, rfl, by decide, by decide, fun Hk pk ek hk => ⟨big 1 (by decide), fun u5 nu5 => ⟨big 2 (by decide), fun v5 nv5 => ⟨big 2 (by decide), fun lw nlw => ?_⟩⟩⟩⟩⟩⟩
    have P4 := mk_pair (is := []) h1g2 nu4 nv4
    have w5 := (Ext.upd (o := HO.tup []) nu4).trans (Ext.upd (o := HO.tup [.ref p1, .ref u4]) nv4)
    have P5 := mk_pair (is := [2]) hk nu5 nv5
    have w6 := (Ext.upd (o := HO.tup [.int 2]) nu5).trans (Ext.upd (o := HO.tup [.ref pk, .ref u5]) nv5)
    have w7 := Ext.upd (o := HO.lst [.ref v4, .ref v5]) nlw
    have okF2 : ∀ e ∈ ([(idRows 1, []), (failRows 1, [2])] : List Pr), okW e.1 := by
      intro e he
      simp only [List.mem_cons, List.not_mem_nil, or_false] at he
      rcases he with rfl | rfl
      · exact okRows_W (idRows_ok 1)
      · exact okRows_W (failRows_ok 1)
    refine ⟨dPairs_of okF2 (hPg2.ext (((w5.trans ek).trans w6).trans w7)) (PL.at (.cons (P4.ext ((ek.trans w6).trans w7)) (.cons (P5.ext w7) .nil)) upd_same), fun Hz ez => ⟨false, rfl, iteF ?_⟩⟩
    exact k Hz (((e1.trans e2).trans z10).trans ((((((ef.trans eg2).trans w5).trans ek).trans w6).trans w7).trans ez))

end
end K30
set_option maxHeartbeats 1000000
namespace K30
open PySem L2 ClX
theorem b_max : bootBuiltins "max" = some (.builtin "max") := by decide +kernel
theorem b_min : bootBuiltins "min" = some (.builtin "min") := by decide +kernel
abbrev NL : List Str := ["_law_script", "_law_k", "_law_draws_here", "_law_capacity", "_law_effects", "_law_turn", "_law_mode", "_law_text", "_law_pairs", "_law_many", "_law_told", "_law_effect", "_law_indices", "_law_word", "_law_spot"]
section
variable {P : Program} {w : World} {K : PySem.W.Frag} {mg : Str → Option Value} {base : Heap}
theorem scLaw : FnScope NL ["_law_script"] (defScope sLaw) := ⟨rfl, rfl, rfl, by decide +kernel, rfl, by decide +kernel, by decide +kernel⟩
theorem bDraw (F : Df K mg "_law_draw" sDraw) : Binds K F.fd ["_law_draws_here", "_law_upto"] [] := F.F.binds (ps := ["_law_draws_here", "_law_upto"]) fun _ _ _ _ _ _ us hl => match us, hl with | [_, _], _ => rfl
theorem bDraws (F : Df K mg "_law_draws" sDraws) : Binds K F.fd ["_law_script", "_law_k"] [] := F.F.binds (ps := ["_law_script", "_law_k"]) fun _ _ _ _ _ _ us hl => match us, hl with | [_, _], _ => rfl
theorem bLGen (F : Df K mg "_law_generated" sLGen) : Binds K F.fd ["_law_effects", "_law_bound"] [] := F.F.binds (ps := ["_law_effects", "_law_bound"]) fun _ _ _ _ _ _ us hl => match us, hl with | [_, _], _ => rfl
theorem bClosed (F : Df K mg "_law_closed" sClosed) : Binds K F.fd ["_law_effects", "_law_pairs"] [] := F.F.binds (ps := ["_law_effects", "_law_pairs"]) fun _ _ _ _ _ _ us hl => match us, hl with | [_, _], _ => rfl
theorem bEffOf (F : Df K mg "effect_of" sEffOf) : Binds K F.fd ["program", "capacity", "mode"] [] := F.F.binds (ps := ["program", "capacity", "mode"]) fun _ _ _ _ _ _ us hl => match us, hl with | [_, _, _], _ => rfl
theorem bWords (F : Df K mg "_law_words" sWords) : Binds K F.fd ["_law_effects", "_law_long"] [] := F.F.binds (ps := ["_law_effects", "_law_long"]) fun _ _ _ _ _ _ us hl => match us, hl with | [_, _], _ => rfl
theorem join_signs : ∀ zs : List Nat, Txt.join ("" : Str) (zs.map fun c => S [c]) = S zs := by
  intro zs
  have h : ∀ zs : List Nat, Str.join ("" : Str) (zs.map fun c => S [c]) = S zs := by
    intro zs
    induction zs with
    | nil => rfl
    | cons x zs ih =>
      cases zs with
      | nil => rfl
      | cons y zs =>
        show S [x] ++ ("" : Str) ++ Str.join ("" : Str) ((y :: zs).map fun c => S [c]) = _
        rw [ih, show ("" : Str) = S [] from rfl, S_app, S_app]
        rfl
  rw [TL.join_eq]
  exact h zs
/-- the draws' list at p, the effects made so far at l -/
structure LSt (K : PySem.W.Frag) (C : Addr) (H0 H : Hp) (p l c : Nat) (G : List (List Row)) : Prop where
  e0 : Ext H0 H
  np : H0 p = none
  nl : H0 l = none
  npl : p ≠ l
  dr : ∃ x y : Int, H p = some (.lst [.int x, .int y]) ∧ 0 ≤ x ∧ 0 ≤ y ∧ y < 2147483647
  ef : ∃ xs, H l = some (.lst xs) ∧ ItemsAt K C H xs (itms c G)
theorem LSt.ext {C : Addr} {H0 H H' : Hp} {p l c : Nat} {G : List (List Row)} (s : LSt K C H0 H p l c G) (e : Ext H H') : LSt K C H0 H' p l c G := by
  obtain ⟨x, y, h1, h2⟩ := s.dr
  obtain ⟨xs, g1, g2⟩ := s.ef
  exact ⟨s.e0.trans e, s.np, s.nl, s.npl, ⟨x, y, e _ _ h1, h2⟩, ⟨xs, e _ _ g1, g2.ext e⟩⟩
theorem LSt.draw {C : Addr} {H0 H : Hp} {p l c : Nat} {G : List (List Row)} (s : LSt K C H0 H p l c G) {x y : Int} (hx : 0 ≤ x) (hy : 0 ≤ y) (hy2 : y < 2147483647) : LSt K C H0 (upd H p (.lst [.int x, .int y])) p l c G := by
  obtain ⟨x', y', h1, h2⟩ := s.dr
  obtain ⟨xs, g1, g2⟩ := s.ef
  exact ⟨ext_upd_new s.e0 s.np, s.np, s.nl, s.npl, ⟨x, y, upd_same, hx, hy, hy2⟩, ⟨xs, by rw [upd_ne (Ne.symm s.npl)]; exact g1, g2.extL h1 ExtL.upd⟩⟩
/-- a list elsewhere grows -/
theorem LSt.grow {C : Addr} {H0 H : Hp} {p l c : Nat} {G : List (List Row)} (s : LSt K C H0 H p l c G) {D : Addr} {acc acc' : List V} (hD : H D = some (.lst acc)) (n0 : H0 D = none) (np : D ≠ p) (nl : D ≠ l) : LSt K C H0 (upd H D (.lst acc')) p l c G := by
  obtain ⟨x, y, h1, h2⟩ := s.dr
  obtain ⟨xs, g1, g2⟩ := s.ef
  exact ⟨ext_upd_new s.e0 n0, s.np, s.nl, s.npl, ⟨x, y, by rw [upd_ne (Ne.symm np)]; exact h1, h2⟩, ⟨xs, by rw [upd_ne (Ne.symm nl)]; exact g1, g2.extL hD ExtL.upd⟩⟩
theorem itemsAt_snoc {C : Addr} {H : Hp} {xs : List V} {its : List Item} {v : V} {it : Item} (h : ItemsAt K C H xs its) (g : ItemAt K C H v it) : ItemsAt K C H (xs ++ [v]) (its ++ [it]) := by
  induction h with
  | nil => exact .cons g .nil
  | cons a _ ih => exact .cons a ih
theorem LSt.app {C : Addr} {H0 H : Hp} {p l c : Nat} {G : List (List Row)} (s : LSt K C H0 H p l c G) {xs : List V} (hl : H l = some (.lst xs)) {a : Addr} {R : List Row} (hE : EfAt K C H a R) (o : okRows c R) (c1 : 1 ≤ c) (c2 : c ≤ 100) : LSt K C H0 (upd H l (.lst (xs ++ [.ref a]))) p l c (G ++ [R]) := by
  obtain ⟨x, y, h1, h2⟩ := s.dr
  obtain ⟨xs', g1, g2⟩ := s.ef
  rw [hl] at g1
  cases g1
  refine ⟨ext_upd_new s.e0 s.nl, s.np, s.nl, s.npl, ⟨x, y, by rw [upd_ne s.npl]; exact h1, h2⟩, ⟨_, upd_same, ?_⟩⟩
  have e : itms c (G ++ [R]) = itms c G ++ [.inl (c, R)] := by
    show (G ++ [R]).map _ = _
    rw [List.map_append]
    rfl
  rw [e]
  exact itemsAt_snoc (g2.extL hl ExtL.upd) ⟨a, rfl, hE.extL hl ExtL.upd, o, c1, c2⟩
theorem signs3 : ∀ r, r < 3 → ∃ d, (S [97, 98, 45]).cps[r]? = some d ∧ d ∈ abz := by
  intro r hr
  match r, hr with
  | 0, _ => exact ⟨97, rfl, by decide⟩
  | 1, _ => exact ⟨98, rfl, by decide⟩
  | 2, _ => exact ⟨45, rfl, by decide⟩
theorem modes3 : ∀ r, r < 3 → [V.str "oldest", V.str "newest", V.str "strict"][r]? = some (V.str (modeS r)) := by
  intro r hr
  match r, hr with
  | 0, _ => rfl
  | 1, _ => rfl
  | 2, _ => rfl
theorem abz_step {z : List Nat} (h : ∀ d ∈ z, d ∈ abz) : ∀ d ∈ z, isStep d := fun d hd => by
  have := h d hd
  simp [abz] at this
  unfold isStep isLetter
  omega
/-- an effect that the law draws -/
def Drawn3 (c : Nat) (R : List Row) : Prop := ∃ m z, m < 3 ∧ z ∈ words3 ∧ (∀ d ∈ z, d ∈ abz) ∧ R = wordRows c m z
theorem Drawn3.ab {c : Nat} {R : List Row} (h : Drawn3 c R) : okAB R := by
  obtain ⟨m, z, _, _, hz, rfl⟩ := h
  exact wordRows_ab hz
theorem Drawn3.single {c : Nat} {R : List Row} (hc : c = 1 ∨ c = 2) (h : Drawn3 c R) : ∃ F, genR c [R] 400 = some F := by
  obtain ⟨m, z, hm, hw, hz, rfl⟩ := h
  rcases hc with rfl | rfl
  · exact Option.isSome_iff_exists.mp (single_all z hw ⟨m, hm⟩ ⟨0, by decide⟩)
  · exact Option.isSome_iff_exists.mp (single_all z hw ⟨m, hm⟩ ⟨1, by decide⟩)
def spLaw (K : PySem.W.Frag) : Sp := fun vs H Q _ => ∃ (a : Addr) (ns : List Int), vs = [.ref a] ∧ SqL K H a (ns.map V.int) ∧ ns.length ≤ 63 ∧ ∀ H', Q (.bl true) H'
theorem ok_law (FL : Df K mg "law" sLaw) (B : Nb mg) (T : EfC K mg) (N : EfM K mg T) (FF : Df K mg "_law_fixed_right" sFix) (GF : FnOk P w K mg base CX0 10 FF.f FF.fd [] spFix) (FW : Df K mg "_law_draws" sDraws) (GW : FnOk P w K mg base CX0 1 FW.f FW.fd ["_law_script", "_law_k"] (spDraws K))
    (FD : Df K mg "_law_draw" sDraw) (GD : FnOk P w K mg base CX0 1 FD.f FD.fd ["_law_draws_here", "_law_upto"] spDraw) (FE : Df K mg "effect_of" sEffOf) (GE : FnOk P w K mg base CX0 8 FE.f FE.fd ["program", "capacity", "mode"] (spEffOf K T.C))
    (FG : Df K mg "_law_generated" sLGen) (GL : FnOk P w K mg base CX0 9 FG.f FG.fd ["_law_effects", "_law_bound"] (spLGen K T.C)) (FC : Df K mg "_law_closed" sClosed) (GC : FnG P w K mg base CX0 10 FC.f FC.fd ["_law_effects", "_law_pairs"] (spClosed K T.C))
    (FP : Df K mg "_law_product" sProd) (GP : FnOk P w K mg base CX0 9 FP.f FP.fd ["_law_effects", "_law_indices"] (spProd K T.C)) (FV : Df K mg "_law_words" sWords) (GV : FnOk P w K mg base CX0 1 FV.f FV.fd ["_law_effects", "_law_long"] (spWords K))
    (GQ : FnOk P w K mg base CX0 1 N.fEq.f N.fEq.fd ["self", "other"] (spEq (ReqE K T.C))) (GR : FnG P w K mg base CX0 3 N.fRepr.f N.fRepr.fd ["self"] (spRepr K T.C)) : FnG P w K mg base CX0 11 FL.f FL.fd ["_law_script"] (spLaw K) := by
  have bR : Binds K N.fRepr.fd ["self"] [] := N.fRepr.F.binds (ps := ["self"]) fun _ _ _ _ _ _ us hl => match us, hl with | [_], _ => rfl
  have bF : Binds K FF.fd [] [] := FF.F.binds (ps := []) fun _ _ _ _ _ _ us hl => match us, hl with | [], _ => rfl
  refine Fun.okG FL.F scLaw (fun vs H Q E h => ?_) (fun cdv A outer s H vs Q E hg hr h => ?_)
  · obtain ⟨a, ns, rfl, _⟩ := h
    rfl
  · obtain ⟨a, ns, rfl, hs, hns, k⟩ := h
    have hr10 : Room 10 (A.deeper (PyProof.Rows.envOfC "law" (defScope sLaw) s.heap.objs.size FL.f cdv)) := hr
    have hr9 : Room 9 (A.deeper (PyProof.Rows.envOfC "law" (defScope sLaw) s.heap.objs.size FL.f cdv)) := hr.mono (by decide)
    have hr8 : Room 8 (A.deeper (PyProof.Rows.envOfC "law" (defScope sLaw) s.heap.objs.size FL.f cdv)) := hr.mono (by decide)
    have hr4 : Room 4 (A.deeper (PyProof.Rows.envOfC "law" (defScope sLaw) s.heap.objs.size FL.f cdv)) := hr.mono (by decide)
    have hr3 : Room 3 (A.deeper (PyProof.Rows.envOfC "law" (defScope sLaw) s.heap.objs.size FL.f cdv)) := hr.mono (by decide)
    have hr1 : Room 1 (A.deeper (PyProof.Rows.envOfC "law" (defScope sLaw) s.heap.objs.size FL.f cdv)) := hr.mono (by decide)
    have hr0 := hr.units0
    have hu := hu_of hr
    have hu64 := hr.units
    refine ⟨_, (pss_cons (ps_if (pt_not (pt_val (pe_call0 GF hr10 (by rfl) FF.m FF.F.kp bF .nil pass0))) (pss_one (ps_ret pe_bl)) pss_nil) (pss_cons (ps_for PassesOwn.leaving rfl (pi_range1 rfl B.range (pa_cons (pe_callB (call_max2 rfl) (by rfl) B.max b_max (pa_cons pe_int (pa_cons (pe_callB (call_min2 rfl) (by rfl) B.min b_min (pa_cons pe_int (pa_cons (q_len (pv 0) B) pa_nil))) pa_nil))) pa_nil)) (pg_name (i := 1) scLaw.nd rfl (.inl rfl)) (pss_cons (ps_set (i := 2) scLaw.nd rfl (Or.inr rfl) (pe_call GW hr1 (by rfl) FW.m FW.F.kp (bDraws FW) .nil pass0 (pa_cons (pv 0) (pa_cons (pv 1) pa_nil)))) (pss_cons (ps_set (i := 3) scLaw.nd rfl (Or.inl rfl) (pe_op op_add pe_int (pe_call GD hr1 (by rfl) FD.m FD.F.kp (bDraw FD) .nil pass0 (pa_cons (pv 2) (pa_cons pe_int pa_nil))))) (pss_cons (ps_set (i := 4) scLaw.nd rfl (Or.inl rfl) (pe_lst pa_nil)) (pss_cons (ps_for PassesOwn.leaving rfl (pi_range1 rfl B.range (pa_cons (pe_op op_add pe_int (pe_call GD hr1 (by rfl) FD.m FD.F.kp (bDraw FD) .nil pass0 (pa_cons (pv 2) (pa_cons pe_int pa_nil)))) pa_nil)) (pg_name (i := 5) scLaw.nd rfl (.inl rfl)) (pss_cons (ps_set (i := 6) scLaw.nd rfl (Or.inl rfl) (pe_ix ix_list (pe_lst (pa_cons pe_str (pa_cons pe_str (pa_cons pe_str pa_nil)))) (pe_call GD hr1 (by rfl) FD.m FD.F.kp (bDraw FD) .nil pass0 (pa_cons (pv 2) (pa_cons pe_int pa_nil))) (fun _ _ => rfl))) (pss_cons (ps_set (i := 7) scLaw.nd rfl (Or.inl rfl) (pe_join pe_str (pe_lc (own := [("_law_spot", 14)]) (g := gName 14) (tt := tYes) rfl scLaw.nd (pi_range1 rfl B.range (pa_cons (pe_op op_add pe_int (pe_call GD hr1 (by rfl) FD.m FD.F.kp (bDraw FD) .nil pass0 (pa_cons (pv 2) (pa_cons pe_int pa_nil)))) pa_nil)) (blkOk_by (N := NL) (sc := defScope sLaw) (by decide +kernel)) (fun _ _ _ _ _ => (pg_name (i := 14) scLaw.nd rfl (.inl rfl))) (fun _ _ _ _ _ => pts_nil) (fun _ _ _ _ _ => (pe_item_str pe_str (pe_call GD hr1 (by rfl) FD.m FD.F.kp (bDraw FD) .nil pass0 (pa_cons (pv 2) (pa_cons pe_int pa_nil))) (fun _ _ => rfl)))))) (pss_one (ps_expr (pe_bm PySem.F.plainAttrs_list PySem.F.slot_list_append PySem.F.type_list_append mt_append (pv 4) (pa_cons (pe_call GE hr8 (by rfl) FE.m FE.F.kp (bEffOf FE) .nil pass0 (pa_cons (pv 7) (pa_cons (pv 3) (pa_cons (pv 6) pa_nil)))) pa_nil))))))) (pss_cons (ps_set (i := 8) scLaw.nd rfl (Or.inl rfl) (pe_call GL hr9 (by rfl) FG.m FG.F.kp (bLGen FG) .nil pass0 (pa_cons (pv 4) (pa_cons pe_int pa_nil)))) (C8.pss_cut (ps_if (pt_cmpR (op_eqQ hr0) (pv 8) pe_int (nomark _)) (pss_cons (ps_par (i := 8) (j := 4) rfl scLaw.nd rfl rfl (by decide) rfl rfl (pa_cons (pe_lst pa_nil) (pa_cons (pe_slice sl_list (pv 4) po_none (po_some pe_int)) pa_nil)) (by rfl)) (pss_one (ps_set (i := 8) scLaw.nd rfl (Or.inl rfl) (pe_call GL hr9 (by rfl) FG.m FG.F.kp (bLGen FG) .nil pass0 (pa_cons (pv 4) (pa_cons pe_int pa_nil)))))) pss_nil) (pss_cons (ps_if (PW.pt (pw_or (pt_not (pt_val (q_isi (pv 8) (q_Tlist B) B))) (pw_or1 (pt_not (pt_val (pe_callG GC hg hr10 (by rfl) FC.m FC.F.kp (bClosed FC) .nil pass0 (pa_cons (pv 4) (pa_cons (pv 8) pa_nil)))))))) (pss_one (ps_ret pe_bl)) pss_nil) (pss_cons (ps_set (i := 9) scLaw.nd rfl (Or.inl rfl) (q_len (pv 8) B)) (pss_cons (ps_if (pt_cmpR (r := rNc (DList (DPair K T.C))) (op_nc (ncPairs (X := (cxOf CX0 P w K mg base NL "law" (defScope sLaw) FL.f cdv A outer s H E)) T N GQ) hr3) (pe_call GL hr9 (by rfl) FG.m FG.F.kp (bLGen FG) .nil pass0 (pa_cons (pv 4) (pa_cons (pv 9) pa_nil))) (pv 8) (nomark _)) (pss_one (ps_ret pe_bl)) pss_nil) (C8.pss_cut (ps_if (PW.pt (pw_and (pt_cmpR op_gt (pv 9) pe_int (nomark _)) (pw_and1 (pt_cmpR op_ne (pe_call GL hr9 (by rfl) FG.m FG.F.kp (bLGen FG) .nil pass0 (pa_cons (pv 4) (pa_cons (pe_op op_sub (pv 9) pe_int) pa_nil))) (pe_op op_sub (pv 9) pe_int) (nomark _))))) (pss_one (ps_ret pe_bl)) pss_nil) (pss_cons (ps_set (i := 10) scLaw.nd rfl (Or.inl rfl) pe_dnewK) (pss_cons (ps_for PassesOwn.leaving rfl (pi_list (pv 8)) (pg_tup (by rfl) (pgs_cons (pg_name (i := 11) scLaw.nd rfl (.inl rfl)) (pgs_cons (pg_name (i := 12) scLaw.nd rfl (.inl rfl)) pgs_nil))) (pss_one (ps_dput hu (pv 10) (pe_callB (call_reprO GR hg hr4 N.hRepr N.fnRepr bR pass0) (by rfl) B.repr b_repr (pa_cons (pv 11) pa_nil)) (pv 12) rfl))) (pss_one (ps_for PassesOwn.leaving rfl (pi_list (pe_call GV hr1 (by rfl) FV.m FV.F.kp (bWords FV) .nil pass0 (pa_cons (pv 4) (pa_cons pe_int pa_nil)))) (pg_name (i := 13) scLaw.nd rfl (.inl rfl)) (pss_cons (ps_set (i := 12) scLaw.nd rfl (Or.inl rfl) (pe_dget hu (pv 10) (pe_callB (call_reprO GR hg hr4 N.hRepr N.fnRepr bR pass0) (by rfl) B.repr b_repr (pa_cons (pe_call GP hr9 (by rfl) FP.m FP.F.kp (bProd FP) .nil pass0 (pa_cons (pv 4) (pa_cons (pv 13) pa_nil))) pa_nil)) (fun _ _ => rfl))) (pss_one (ps_if (pt_cmpR (op_gtD hu64) (pe_tup (pa_cons (q_len (pv 12) B) (pa_cons (pv 12) pa_nil))) (pe_tup (pa_cons (q_len (pv 13) B) (pa_cons (pv 13) pa_nil))) (nomark _)) (pss_one (ps_ret pe_bl)) pss_nil)))))))))))))))))) (pss_one (ps_ret pe_bl)))), ?_⟩
    have zero : 0 ≤ sizeLine := Nat.zero_le _
    have big : ∀ n : Nat, n ≤ 10 → n ≤ sizeLine := fun n hn => by rw [sizeLine_eq]; omega
    refine ⟨rfl, fun H1 e1 => ⟨true, rfl, iteF ?_⟩⟩
    have hs1 := hs.ext e1
    have hN : 1 ≤ (if (if ((ns.map V.int).length : Int) < 8 then ((ns.map V.int).length : Int) else 8) > 1 then (if ((ns.map V.int).length : Int) < 8 then ((ns.map V.int).length : Int) else 8) else 1) ∧
        (if (if ((ns.map V.int).length : Int) < 8 then ((ns.map V.int).length : Int) else 8) > 1 then (if ((ns.map V.int).length : Int) < 8 then ((ns.map V.int).length : Int) else 8) else 1) ≤ 8 := by
      split <;> split <;> omega
    refine ⟨_, rfl, a, _, rfl, .inl hs1, _, _, rfl, _, _, rfl, _, rfl, ?_, ?_, for_it (walk_range (lo := 0) (n := (if (if ((ns.map V.int).length : Int) < 8 then ((ns.map V.int).length : Int) else 8) > 1 then (if ((ns.map V.int).length : Int) < 8 then ((ns.map V.int).length : Int) else 8) else 1).toNat))
      (fun i σ H' => Ext H1 H' ∧ ∃ b1 b2 b3 b4 b5 b6 b7 b8 b9 b10 b11 b12 b13 b14, σ = [some (.ref a), b1, b2, b3, b4, b5, b6, b7, b8, b9, b10, b11, b12, b13, b14]) ⟨Ext.rfl', _, _, _, _, _, _, _, _, _, _, _, _, _, _, rfl⟩ (fun _ _ _ _ _ => True.intro) ?_ ?_⟩
    · have := hN.1
      have h2 := hN.2
      omega
    · have := hN.1
      have h2 := hN.2
      omega
    rotate_left
    · rintro σ H2 ⟨e2, b1, b2, b3, b4, b5, b6, b7, b8, b9, b10, b11, b12, b13, b14, rfl⟩
      exact k H2
    rintro i x σ H0 H0' hi ⟨e0, b1, b2, b3, b4, b5, b6, b7, b8, b9, b10, b11, b12, b13, b14, rfl⟩ ⟨rfl, rfl⟩
    have hi8 : i < 8 := by omega
    -- the draws
    refine ⟨_, rfl, _, rfl, a, ns, 0 + i, rfl, hs1.ext e0, hns, by omega, fun H2 p x y e2 np hp hx hy hy2 => ?_⟩
    refine ⟨_, rfl, p, 2, x, y, rfl, hp, hx, hy, hy2, by decide, by decide, fun x1 y1 r1 hx1 hy1 hy12 hr1' => ⟨_, _, rfl, rfl, ?_⟩⟩
    refine ⟨zero, fun l nl => ?_⟩
    have hp3 : (upd H2 p (.lst [.int x1, .int y1])) p = some (.lst [.int x1, .int y1]) := upd_same
    have npl : p ≠ l := ne_of_none hp3 nl
    have nl0 : H0' l = none := by
      cases z : H0' l with
      | none => rfl
      | some o =>
        have h2 := e2 _ _ z
        rw [upd_ne (Ne.symm npl), h2] at nl
        cases nl
    have x3 : Ext H0' (upd H2 p (.lst [.int x1, .int y1])) := ext_upd_new e2 np
    have st0 : LSt K T.C H0' (upd (upd H2 p (.lst [.int x1, .int y1])) l (.lst [])) p l (1 + r1) [] :=
      ⟨x3.trans (Ext.upd nl), np, nl0, npl, ⟨x1, y1, by rw [upd_ne npl]; exact hp3, hx1, hy1, hy12⟩, ⟨[], upd_same, .nil⟩⟩
    obtain ⟨x4, y4, hp4, hx4, hy4, hy42⟩ := st0.dr
    refine ⟨_, rfl, p, 3, x4, y4, rfl, hp4, hx4, hy4, hy42, by decide, by decide, fun x5 y5 r2 hx5 hy5 hy52 hr2' => ⟨_, _, rfl, rfl, _, rfl, by omega, by omega, ?_⟩⟩
    have st1 := st0.draw hx5 hy5 hy52
    have hc : 1 + r1 = 1 ∨ 1 + r1 = 2 := by omega
    generalize hcc : 1 + r1 = c at st1 hc
    have c1 : 1 ≤ c := by omega
    have c2 : c ≤ 100 := by omega
    have hcI : (1 : Int) + (r1 : Int) = (c : Int) := by omega
    refine for_it (walk_range (lo := 0) (n := 1 + r2)) (fun j σ H' => ∃ G b5 b6 b7, G.length = j ∧ (∀ R ∈ G, Drawn3 c R) ∧ LSt K T.C H0' H' p l c G ∧ σ = [some (.ref a), some (.int (0 + (i : Nat))), some (.ref p), some (.int (c : Int)), some (.ref l), b5, b6, b7, b8, b9, b10, b11, b12, b13, b14])
      ⟨[], _, _, _, rfl, (fun R h => nomatch h), st1, by rw [← hcI]; rfl⟩ (fun _ _ _ _ _ => True.intro) ?_ ?_
    · rintro j x6 σ H6 H6' hj ⟨G, d5, d6, d7, hGl, hGd, st6, rfl⟩ ⟨rfl, rfl⟩
      -- mode
      refine ⟨big 3 (by decide), fun q nq => ?_⟩
      have st7 := st6.ext (Ext.upd (o := HO.lst [.str "oldest", .str "newest", .str "strict"]) nq)
      obtain ⟨x7, y7, hp7, hx7, hy7, hy72⟩ := st7.dr
      have npq : p ≠ q := fun z => by
        subst z
        obtain ⟨x', y', hh, _⟩ := st6.dr
        rw [nq] at hh
        cases hh
      refine ⟨_, rfl, p, 3, x7, y7, rfl, hp7, hx7, hy7, hy72, by decide, by decide, fun x8 y8 r3 hx8 hy8 hy82 hr3 => ?_⟩
      have st8 := st7.draw hx8 hy8 hy82
      refine ⟨q, _, (r3 : Int), .str (modeS r3), rfl, rfl, SqL.of (by rw [upd_ne (Ne.symm npq), upd_same]), atI_nat (modes3 r3 hr3), ?_⟩
      -- text
      obtain ⟨x9, y9, hp9, hx9, hy9, hy92⟩ := st8.dr
      refine ⟨⟨_, rfl⟩, _, rfl, p, 3, x9, y9, rfl, hp9, hx9, hy9, hy92, by decide, by decide, fun x10 y10 r4 hx10 hy10 hy102 hr4' => ⟨_, _, rfl, rfl, _, rfl, by omega, by omega, fun D hD => ?_⟩⟩
      have st10 := st8.draw hx10 hy10 hy102
      have nDp : D ≠ p := fun z => by
        subst z
        obtain ⟨x', y', hh, _⟩ := st10.dr
        rw [hD] at hh
        cases hh
      have nDl : D ≠ l := fun z => by
        subst z
        obtain ⟨xs', hh, _⟩ := st10.ef
        rw [hD] at hh
        cases hh
      have nD0 : H0' D = none := by
        cases z : H0' D with
        | none => rfl
        | some o => have := st10.e0 _ _ z; rw [hD] at this; cases this
      refine lc_it (walk_range (lo := 0) (n := 1 + r4)) (fun m H' => LSt K T.C H0' H' p l c G ∧ ∃ zs : List Nat, zs.length = m ∧ (∀ d ∈ zs, d ∈ abz) ∧ H' D = some (.lst ((zs.map fun d => S [d]).map V.str)))
        ⟨st10.ext (Ext.upd hD), [], rfl, (fun d h => nomatch h), upd_same⟩ (fun _ _ _ _ => True.intro) ?_ ?_
      · rintro m x11 H11 H11' hm ⟨st11, zs, hzl, hza, hzD⟩ ⟨rfl, rfl⟩
        obtain ⟨x12, y12, hp12, hx12, hy12, hy122⟩ := st11.dr
        refine ⟨rfl, iteT (B := False) ?_⟩
        refine ⟨_, rfl, p, 3, x12, y12, rfl, hp12, hx12, hy12, hy122, by decide, by decide, fun x13 y13 r5 hx13 hy13 hy132 hr5 => ?_⟩
        have st13 := st11.draw hx13 hy13 hy132
        obtain ⟨dd, hdd, hda⟩ := signs3 r5 hr5
        refine ⟨S [97, 98, 45], (r5 : Int), dd, rfl, rfl, by omega, by omega, (by show (r5 : Int) < 3; omega), hdd, (zs.map fun d => S [d]).map V.str, by rw [upd_ne nDp]; exact hzD, by rw [List.length_map, List.length_map, hzl, sizeLine_eq]; omega, ?_⟩
        refine ⟨st13.grow (by rw [upd_ne nDp]; exact hzD) nD0 nDp nDl, zs ++ [dd], by rw [List.length_append, hzl]; rfl, fun d hd => ?_, ?_⟩
        · rcases List.mem_append.mp hd with hd | hd
          · exact hza d hd
          · rw [List.mem_singleton.mp hd]; exact hda
        · rw [upd_same, List.map_append, List.map_append]
          rfl
      rintro H11 ⟨st11, zs, hzl, hza, hzD⟩
      have hsum : ((zs.map fun d => S [d]).map (·.length)).sum = zs.length := by
        clear hzl hza hzD
        induction zs with
        | nil => rfl
        | cons d zs ih => rw [List.map_cons, List.map_cons, List.sum_cons, ih, List.length_cons]; show 1 + zs.length = zs.length + 1; omega
      refine ⟨"", D, zs.map fun d => S [d], rfl, rfl, .inl (SqL.of hzD), ?_, ?_⟩
      · rw [hsum, List.length_map, show ("" : Str).length = 0 from rfl]
        omega
      rw [join_signs]
      -- effect_of
      have hzw : zs ∈ words3 := words3_mem hza (by omega) (by omega)
      obtain ⟨xs11, hl11, _⟩ := st11.ef
      refine ⟨_, rfl, .inl ⟨rfl, _, SqL.of hl11⟩, _, rfl, _, rfl, _, rfl, zs, c, r3, rfl, ?_, by omega, abz_step hza, hr3, c1, c2, fun H14 pe e14 hE => ?_⟩
      · intro z
        subst z
        simp at hzl
        omega
      have st14 := st11.ext e14
      obtain ⟨xs14, hl14, hI14⟩ := id st14.ef
      have hxl := hI14.len
      rw [List.length_map] at hxl
      refine ⟨l, xs14, .ref pe, rfl, rfl, hl14, by rw [hxl, sizeLine_eq]; omega, ?_⟩
      refine ⟨G ++ [wordRows c r3 zs], _, _, _, by rw [List.length_append, hGl]; rfl, fun R hR => ?_, st14.app hl14 hE (wordRows_ok c1 (abz_step hza)) c1 c2, rfl⟩
      rcases List.mem_append.mp hR with hR | hR
      · exact hGd R hR
      · rw [List.mem_singleton.mp hR]
        exact ⟨r3, zs, hr3, hzw, hza, rfl⟩
    rintro σ H6 ⟨G, d5, d6, d7, hGl, hGd, st6, rfl⟩
    have hG1 : 1 ≤ G.length ∧ G.length ≤ 3 := by omega
    have hEf : EffsAt K T.C H6 l c G := st6.ef
    have X6 := st6.e0
    clear st1 hcI
    -- the rest, from the pairs
    refine ⟨_, rfl, l, c, 400, G, rfl, hEf, hG1.1, hG1.2, c1, c2, by decide, by decide, ?_⟩
    let Mid : L2.St → Hp → Prop := fun σ H' => ∃ (l' q' : Addr) (G' : List (List Row)) (F : List Pr) (d5 d6 d7 : Option V), σ = [some (.ref a), some (.int (0 + (i : Nat))), some (.ref p), some (.int (c : Int)), some (.ref l'), d5, d6, d7, some (.ref q'), b9, b10, b11, b12, b13, b14] ∧
      Ext H0' H' ∧ EffsAt K T.C H' l' c G' ∧ 1 ≤ G'.length ∧ G'.length ≤ 3 ∧ (∀ R ∈ G', Drawn3 c R) ∧ PairsAt K T.C H' q' F ∧ genR c G' 400 = some F
    cases hgen : genR c G 400 with
    | none =>
      intro H7 e7
      refine ⟨Mid, ⟨_, rfl, .inr ⟨400, rfl, .inl ⟨400, rfl, true, rfl, iteT ?_⟩⟩⟩, ?_⟩
      · obtain ⟨xs, hx, hI⟩ := hEf.ext e7
        have hxl := hI.len
        rw [List.length_map] at hxl
        refine ⟨zero, fun q nq => ?_⟩
        have hx' := (Ext.upd (o := HO.lst []) nq) _ _ hx
        refine ⟨_, rfl, _, rfl, l, xs, rfl, SqL.of hx', fun l2 nl2 => ⟨_, _, rfl, ?_⟩⟩
        have eq : Ext H7 (upd (upd H7 q (.lst [])) l2 (.lst (cutV xs none (some 1)))) := (Ext.upd nq).trans (Ext.upd nl2)
        match G, xs, hG1, hxl, hI, hGd, hGl with
        | R :: G2, v :: xs2, hG1, hxl, hI, hGd, hGl =>
          have hcut : cutV (v :: xs2) none (some 1) = [v] := by
            unfold cutV
            rw [HT.sIx_none, List.drop_zero, show HT.sIx (v :: xs2).length (v :: xs2).length (some 1) = 1 by
              rw [show (1 : Int) = ((1 : Nat) : Int) from rfl, HT.sIx_nat]
              simp]
            rfl
          have hI1 : ItemsAt K T.C H7 [v] (itms c [R]) := by
            cases hI with
            | cons h1 _ => exact .cons h1 .nil
          have hE2 : EffsAt K T.C (upd (upd H7 q (.lst [])) l2 (.lst (cutV (v :: xs2) none (some 1)))) l2 c [R] := ⟨[v], by rw [upd_same, hcut], hI1.ext eq⟩
          obtain ⟨F, hF⟩ := (hGd R (List.mem_cons_self ..)).single hc
          refine ⟨_, rfl, l2, c, 400, [R], rfl, hE2, by simp, by simp, c1, c2, by decide, by decide, ?_⟩
          rw [hF]
          intro H8 q2 e8 hP
          exact ⟨l2, q2, [R], F, _, _, _, rfl, ((X6.trans e7).trans eq).trans e8, hE2.ext e8, by simp, by simp, fun R' hR' => by rw [List.mem_singleton.mp hR']; exact hGd R (List.mem_cons_self ..), hP, hF⟩
        | [], _, hG1, _, _, _, _ => exact absurd hG1.1 (by decide)
        | _ :: _, [], _, hxl, _, _, _ => simp at hxl
      · rintro σ' H8 ⟨l', q', G', F, d5', d6', d7', rfl, X8, hE8, g1, g3, hGd', hP8, hgen8⟩
        have W := genR_whole hgen8
        have hFl := genR_most hgen8 (by decide)
        have hG' : G' ≠ [] := by intro z; subst z; simp at g1
        have hab : ∀ R ∈ G', okAB R := fun R hR => (hGd' R hR).ab
        have hok := hE8.ok
        have rk : ∀ u : List Nat, (∀ j ∈ u, j < G'.length) → okRows c (prodI c G' u) ∧ okAB (prodI c G' u) := fun u hu => ⟨prodI_ok hok _ _ hu (idRows_ok c), prodI_ab (c := c) hab _ _ hu (idRows_ab c)⟩
        have rF : ∀ e ∈ F, okRows c e.1 ∧ okAB e.1 := fun e he => by
          obtain ⟨h1, h2⟩ := W.pr e he
          rw [← h1]
          exact rk _ h2
        obtain ⟨ps, hps, hpl, hpp⟩ := id hP8
        have two : 2 ≤ sizeLine := big 2 (by decide)
        -- isinstance, closed
        refine ⟨_, rfl, _, _, _, _, true, rfl, .ty _, tyx_list (SqL.of hps), kit_ty (by decide +kernel), true, rfl, iteF ?_⟩
        refine ⟨_, rfl, _, rfl, l', q', c, G', F, rfl, hE8, hc, hG', g3, hab, hP8, W, hFl.2, fun H9 e9 => ⟨true, rfl, iteF ?_⟩⟩
        -- many
        refine ⟨_, rfl, q', ps, rfl, .inl (SqL.of (e9 _ _ hps)), ?_⟩
        refine ⟨_, rfl, _, rfl, l', c, ps.length, G', rfl, hE8.ext e9, g1, g3, c1, c2, by omega, by omega, ?_⟩
        rw [hpl, genR_fits hgen8]
        intro H10 q10 e10 hP10
        refine ⟨_, rfl, dPairs_of (fun e he => okRows_W (rF e he).1) hP10 (hP8.ext (e9.trans e10)), fun H11 e11 => ⟨false, rfl, iteF ?_⟩⟩
        have e811 := (e9.trans e10).trans e11
        -- the limit
        refine ⟨fun σ H' => σ = [some (.ref a), some (.int (0 + (i : Nat))), some (.ref p), some (.int (c : Int)), some (.ref l'), d5', d6', d7', some (.ref q'), some (.int (F.length : Int)), b10, b11, b12, b13, b14] ∧ Ext H8 H', ⟨_, rfl, _, _, rfl, rfl, _, rfl, ?_⟩, ?_⟩
        · by_cases hone : 1 < F.length
          · rw [decide_eq_true (show (1 : Int) < (F.length : Int) by omega)]
            have hsub : (F.length : Int) - 1 = ((F.length - 1 : Nat) : Int) := by omega
            refine iteT ⟨_, rfl, _, rfl, _, _, rfl, rfl, l', c, F.length - 1, G', ?_, hE8.ext e811, g1, g3, c1, c2, by omega, by omega, ?_⟩
            · show [V.ref l', V.int ((F.length : Int) - 1)] = [V.ref l', V.int ((F.length - 1 : Nat) : Int)]
              rw [hsub]
            rw [genR_over hgen8 hone]
            intro H12 e12
            refine ⟨_, rfl, _, _, rfl, rfl, rfl, false, ?_, iteF ⟨rfl, e811.trans e12⟩⟩
            show V.bl (!decide (V.int ((F.length - 1 : Nat) : Int) = V.int ((F.length : Int) - 1))) = V.bl false
            rw [hsub, decide_eq_true rfl]
            rfl
          · rw [decide_eq_false (show ¬ (1 : Int) < (F.length : Int) by omega)]
            exact iteF (iteF ⟨rfl, e811⟩)
        rintro σ'' H12 ⟨rfl, e12⟩
        -- told
        intro dd hdd
        have X12 : Ext H0' H12 := X8.trans e12
        have e13 : Ext H12 (upd H12 dd (.dK [])) := Ext.upd hdd
        have hu' := hu
        refine ⟨_, rfl, q', rfl, ⟨_, SqL.of ((e12.trans e13) _ _ hps)⟩, for_list (K := K) (a := q') (xs := ps) (fun j σ H' => Ext H12 H' ∧ (∃ c11 c12, σ = [some (.ref a), some (.int (0 + (i : Nat))), some (.ref p), some (.int (c : Int)), some (.ref l'), d5', d6', d7', some (.ref q'), some (.int (F.length : Int)), some (.ref dd), c11, c12, b13, b14]) ∧
            ∃ kvs : List (Key × V), H' dd = some (.dK kvs) ∧ kvs.length ≤ j ∧ ∀ m < j, ∀ e, F[m]? = some e → ∃ u, valV kvs (Sum.inr (efText c e.1) : Key) = some (.ref u) ∧ Dp K H' (.ref u) (idxD e.2))
          ⟨e13, ⟨_, _, rfl⟩, [], upd_same, Nat.le_refl _, fun m hm => absurd hm (Nat.not_lt_zero _)⟩ (fun j σ H' _ z => SqL.of (z.1 _ _ (e12 _ _ hps))) ?_ ?_⟩
        · rintro j x σ H14 hxj ⟨e14, ⟨c11, c12, rfl⟩, kvs, hkd, hkl, hkv⟩
          have hjl : j < F.length := by have := (List.getElem?_eq_some_iff.mp hxj).1; omega
          have ej : F[j]? = some F[j] := List.getElem?_eq_getElem hjl
          generalize F[j] = e at ej
          obtain ⟨tp, ea, u, rfl, hst, hEa, hidx⟩ := (hpp j x e hxj ej).ext (e12.trans e14)
          have he := List.mem_of_getElem? ej
          have r1 := rF e he
          obtain ⟨da, ta, ga, _⟩ := id hEa
          refine ⟨tp, _, rfl, hst, rfl, _, _, rfl, _, _, rfl, rfl, ?_⟩
          refine ⟨_, rfl, _, rfl, _, rfl, ea, da, _, rfl, ga, ea, c, e.1, rfl, hEa, c2, r1.1, Nat.le_trans (shown_few hc r1.1 r1.2) (by decide), _, rfl, ?_⟩
          refine ⟨dd, _, rfl, DPut.k (k := Sum.inr (efText c e.1)) hkd (by rw [sizeLine_eq]; omega), ?_⟩
          have ndt : ∀ xs, ¬ Rd H14 dd (.tup xs) := fun xs z => by
            rcases z with z | ⟨o, z⟩ <;> (rw [hkd] at z; cases z)
          have tk : TK H14 (upd H14 dd (.dK (putK kvs (Sum.inr (efText c e.1) : Key) (.ref u)))) := TK.upd ndt
          refine ⟨ext_upd_new e14 hdd, ⟨_, _, rfl⟩, _, upd_same, ?_, fun m hm f hf => ?_⟩
          · have : (putK kvs (Sum.inr (efText c e.1) : Key) (V.ref u)).length ≤ kvs.length + 1 := by
              unfold putK
              split
              · rw [List.length_map]; omega
              · rw [List.length_append]; exact Nat.le_refl _
            omega
          · rw [valV_put]
            by_cases hmj : m = j
            · subst hmj
              rw [ej] at hf
              cases hf
              exact ⟨u, if_pos rfl, dp_tk tk _ _ (tupy_idx _) hidx⟩
            · obtain ⟨u', h1, h2⟩ := hkv m (by omega) f hf
              have hne : ¬ (Sum.inr (efText c f.1) : Key) = Sum.inr (efText c e.1) := fun z => by
                have z1 := Sum.inr.inj z
                have rf := rF f (List.mem_of_getElem? hf)
                have z2 := efText_inj hc rf.1 r1.1 rf.2 r1.2 z1
                have hnd := W.nd
                have hm1 : (F.map (·.1))[m]? = some f.1 := by rw [List.getElem?_map, hf]; rfl
                have hj1 : (F.map (·.1))[j]? = some e.1 := by rw [List.getElem?_map, ej]; rfl
                rw [z2] at hm1
                exact hmj ((List.getElem?_inj (List.getElem?_eq_some_iff.mp hm1).1 hnd).mp (hm1.trans hj1.symm))
              exact ⟨u', by rw [if_neg hne]; exact h1, dp_tk tk _ _ (tupy_idx _) h2⟩
        rintro σ14 H14 ⟨e14, ⟨c11, c12, rfl⟩, kvs, hkd, _, hkv⟩
        -- the words
        obtain ⟨xs, hx, hI⟩ := hE8.ext (e12.trans e14)
        have hxl := hI.len
        rw [List.length_map] at hxl
        refine ⟨_, rfl, l', xs, rfl, hx, by omega, fun H15 pw e15 hW => ?_⟩
        obtain ⟨ws, hws, hwd⟩ := id hW
        refine ⟨pw, rfl, ⟨_, SqL.of hws⟩, for_list (K := K) (a := pw) (xs := ws) (fun j σ H' => Ext H15 H' ∧ ∃ c12 c13, σ = [some (.ref a), some (.int (0 + (i : Nat))), some (.ref p), some (.int (c : Int)), some (.ref l'), d5', d6', d7', some (.ref q'), some (.int (F.length : Int)), some (.ref dd), c11, c12, c13, b14])
          ⟨Ext.rfl', _, _, rfl⟩ (fun j σ H' _ z => SqL.of (z.1 _ _ hws)) ?_ ?_⟩
        · rintro j x σ H16 hxj ⟨e16, c12', c13', rfl⟩
          have hwl := dpAll_len hwd
          rw [List.length_map] at hwl
          have hjl : j < (wordsN xs.length 4).2.length := by have := (List.getElem?_eq_some_iff.mp hxj).1; omega
          have ej : (wordsN xs.length 4).2[j]? = some (wordsN xs.length 4).2[j] := List.getElem?_eq_getElem hjl
          have hlt := (wordsN_lt xs.length 4).2 _ (List.getElem_mem hjl)
          generalize (wordsN xs.length 4).2[j] = u at ej hlt
          obtain ⟨x', ex', dx'⟩ := dpAll_get hwd (show ((wordsN xs.length 4).2.map idxD)[j]? = some (idxD u) by rw [List.getElem?_map, ej]; rfl)
          rw [hxj] at ex'
          cases ex'
          have du := dp_ext' e16 dx'
          have hult : ∀ m ∈ u, m < G'.length := fun m hm => by have := hlt m hm; omega
          obtain ⟨f, hf, ef, sf⟩ := W.least u hult
          obtain ⟨fi, hfi, efi⟩ := List.mem_iff_getElem.mp hf
          obtain ⟨uf, hval, hdf⟩ := hkv fi (by omega) f (by rw [List.getElem?_eq_getElem hfi, efi])
          have X16 := (((e12.trans e14).trans e15).trans e16)
          obtain ⟨tw, rfl, hsw⟩ := idx_inv du
          refine ⟨_, rfl, _, rfl, _, rfl, l', c, .ref tw, G', u, rfl, hE8.ext X16, hG', du, hult, fun H17 pp e17 hpp17 => ?_⟩
          have rp := rk u hult
          obtain ⟨dp', tp', gp', _⟩ := id hpp17
          refine ⟨pp, dp', _, rfl, gp', pp, c, _, rfl, hpp17, c2, rp.1, Nat.le_trans (shown_few hc rp.1 rp.2) (by decide), _, rfl, ?_⟩
          have hk17 : H17 dd = some (.dK kvs) := e17 _ _ (e16 _ _ (e15 _ _ hkd))
          have hget : DGet H17 dd (.str (efText c (prodI c G' u))) (some (.ref uf)) := by
            have h := DGet.k (k := (Sum.inr (efText c f.1) : Key)) hk17
            rw [hval, ef] at h
            exact h
          refine ⟨dd, .ref uf, rfl, hget, ?_⟩
          have df17 := dp_ext' e17 (dp_ext' e16 (dp_ext' e15 hdf))
          have du17 := dp_ext' e17 du
          obtain ⟨_, z1, hsf⟩ := idx_inv df17
          cases z1
          have hsw17 := hsw.ext e17
          refine ⟨_, rfl, uf, _, rfl, .inr hsf, _, rfl, two, fun t1 nt1 => ?_⟩
          have w1 := Ext.upd (o := HO.tup [.int ((f.2.map fun i => V.int (i : Nat)).length : Int), .ref uf]) nt1
          refine ⟨_, rfl, tw, _, rfl, .inr (hsw17.ext w1), _, rfl, two, fun t2 nt2 => ?_⟩
          have w2 := Ext.upd (o := HO.tup [.int ((u.map fun i => V.int (i : Nat)).length : Int), .ref tw]) nt2
          have key : ∀ {Hk : Hp} {t : Addr} {z : List Nat} {b : Addr}, Hk t = some (.tup [.int ((z.map fun i => V.int (i : Nat)).length : Int), .ref b]) → Dp K Hk (.ref b) (idxD z) → Dp K Hk (.ref t) (keyD z) := fun {Hk t z b} h1 h2 => by
            rw [List.length_map] at h1
            exact .tup (SqT.of h1) (.cons (.int _) (.cons h2 .nil))
          refine ⟨keyD f.2, keyD u, key (w2 _ _ upd_same) (dp_ext' (w1.trans w2) df17), key upd_same (dp_ext' (w1.trans w2) du17), keyD_alike _ _, (fun z => nomatch z), Nat.le_trans (keyD_depth _) (by decide), false, ?_, iteF ?_⟩
          · show V.bl (PySem.W.dataLt (keyD u) (keyD f.2)) = V.bl false
            rw [keyD_lt, sle_not sf]
          · exact ⟨((e16.trans e17).trans w1).trans w2, _, _, rfl⟩
        · rintro σ16 H16 ⟨e16, c12', c13', rfl⟩
          exact ⟨e0.trans (X12.trans ((e14.trans e15).trans e16)), _, _, _, _, _, _, _, _, _, _, _, _, _, _, rfl⟩
    | some F =>
      intro H7 q7 e7 hP
      obtain ⟨pq, hpq, _⟩ := id hP
      refine ⟨Mid, ⟨_, rfl, .inr ⟨400, rfl, .inr ⟨q7, pq, rfl, SqL.of hpq, false, rfl, iteF ?_⟩⟩⟩, ?_⟩
      · exact ⟨l, q7, G, F, _, _, _, rfl, X6.trans e7, hEf.ext e7, hG1.1, hG1.2, hGd, hP, hgen⟩
      · rintro σ' H8 ⟨l', q', G', F, d5', d6', d7', rfl, X8, hE8, g1, g3, hGd', hP8, hgen8⟩
        have W := genR_whole hgen8
        have hFl := genR_most hgen8 (by decide)
        have hG' : G' ≠ [] := by intro z; subst z; simp at g1
        have hab : ∀ R ∈ G', okAB R := fun R hR => (hGd' R hR).ab
        have hok := hE8.ok
        have rk : ∀ u : List Nat, (∀ j ∈ u, j < G'.length) → okRows c (prodI c G' u) ∧ okAB (prodI c G' u) := fun u hu => ⟨prodI_ok hok _ _ hu (idRows_ok c), prodI_ab (c := c) hab _ _ hu (idRows_ab c)⟩
        have rF : ∀ e ∈ F, okRows c e.1 ∧ okAB e.1 := fun e he => by
          obtain ⟨h1, h2⟩ := W.pr e he
          rw [← h1]
          exact rk _ h2
        obtain ⟨ps, hps, hpl, hpp⟩ := id hP8
        have two : 2 ≤ sizeLine := big 2 (by decide)
        -- isinstance, closed
        refine ⟨_, rfl, _, _, _, _, true, rfl, .ty _, tyx_list (SqL.of hps), kit_ty (by decide +kernel), true, rfl, iteF ?_⟩
        refine ⟨_, rfl, _, rfl, l', q', c, G', F, rfl, hE8, hc, hG', g3, hab, hP8, W, hFl.2, fun H9 e9 => ⟨true, rfl, iteF ?_⟩⟩
        -- many
        refine ⟨_, rfl, q', ps, rfl, .inl (SqL.of (e9 _ _ hps)), ?_⟩
        refine ⟨_, rfl, _, rfl, l', c, ps.length, G', rfl, hE8.ext e9, g1, g3, c1, c2, by omega, by omega, ?_⟩
        rw [hpl, genR_fits hgen8]
        intro H10 q10 e10 hP10
        refine ⟨_, rfl, dPairs_of (fun e he => okRows_W (rF e he).1) hP10 (hP8.ext (e9.trans e10)), fun H11 e11 => ⟨false, rfl, iteF ?_⟩⟩
        have e811 := (e9.trans e10).trans e11
        -- the limit
        refine ⟨fun σ H' => σ = [some (.ref a), some (.int (0 + (i : Nat))), some (.ref p), some (.int (c : Int)), some (.ref l'), d5', d6', d7', some (.ref q'), some (.int (F.length : Int)), b10, b11, b12, b13, b14] ∧ Ext H8 H', ⟨_, rfl, _, _, rfl, rfl, _, rfl, ?_⟩, ?_⟩
        · by_cases hone : 1 < F.length
          · rw [decide_eq_true (show (1 : Int) < (F.length : Int) by omega)]
            have hsub : (F.length : Int) - 1 = ((F.length - 1 : Nat) : Int) := by omega
            refine iteT ⟨_, rfl, _, rfl, _, _, rfl, rfl, l', c, F.length - 1, G', ?_, hE8.ext e811, g1, g3, c1, c2, by omega, by omega, ?_⟩
            · show [V.ref l', V.int ((F.length : Int) - 1)] = [V.ref l', V.int ((F.length - 1 : Nat) : Int)]
              rw [hsub]
            rw [genR_over hgen8 hone]
            intro H12 e12
            refine ⟨_, rfl, _, _, rfl, rfl, rfl, false, ?_, iteF ⟨rfl, e811.trans e12⟩⟩
            show V.bl (!decide (V.int ((F.length - 1 : Nat) : Int) = V.int ((F.length : Int) - 1))) = V.bl false
            rw [hsub, decide_eq_true rfl]
            rfl
          · rw [decide_eq_false (show ¬ (1 : Int) < (F.length : Int) by omega)]
            exact iteF (iteF ⟨rfl, e811⟩)
        rintro σ'' H12 ⟨rfl, e12⟩
        -- told
        intro dd hdd
        have X12 : Ext H0' H12 := X8.trans e12
        have e13 : Ext H12 (upd H12 dd (.dK [])) := Ext.upd hdd
        have hu' := hu
        refine ⟨_, rfl, q', rfl, ⟨_, SqL.of ((e12.trans e13) _ _ hps)⟩, for_list (K := K) (a := q') (xs := ps) (fun j σ H' => Ext H12 H' ∧ (∃ c11 c12, σ = [some (.ref a), some (.int (0 + (i : Nat))), some (.ref p), some (.int (c : Int)), some (.ref l'), d5', d6', d7', some (.ref q'), some (.int (F.length : Int)), some (.ref dd), c11, c12, b13, b14]) ∧
            ∃ kvs : List (Key × V), H' dd = some (.dK kvs) ∧ kvs.length ≤ j ∧ ∀ m < j, ∀ e, F[m]? = some e → ∃ u, valV kvs (Sum.inr (efText c e.1) : Key) = some (.ref u) ∧ Dp K H' (.ref u) (idxD e.2))
          ⟨e13, ⟨_, _, rfl⟩, [], upd_same, Nat.le_refl _, fun m hm => absurd hm (Nat.not_lt_zero _)⟩ (fun j σ H' _ z => SqL.of (z.1 _ _ (e12 _ _ hps))) ?_ ?_⟩
        · rintro j x σ H14 hxj ⟨e14, ⟨c11, c12, rfl⟩, kvs, hkd, hkl, hkv⟩
          have hjl : j < F.length := by have := (List.getElem?_eq_some_iff.mp hxj).1; omega
          have ej : F[j]? = some F[j] := List.getElem?_eq_getElem hjl
          generalize F[j] = e at ej
          obtain ⟨tp, ea, u, rfl, hst, hEa, hidx⟩ := (hpp j x e hxj ej).ext (e12.trans e14)
          have he := List.mem_of_getElem? ej
          have r1 := rF e he
          obtain ⟨da, ta, ga, _⟩ := id hEa
          refine ⟨tp, _, rfl, hst, rfl, _, _, rfl, _, _, rfl, rfl, ?_⟩
          refine ⟨_, rfl, _, rfl, _, rfl, ea, da, _, rfl, ga, ea, c, e.1, rfl, hEa, c2, r1.1, Nat.le_trans (shown_few hc r1.1 r1.2) (by decide), _, rfl, ?_⟩
          refine ⟨dd, _, rfl, DPut.k (k := Sum.inr (efText c e.1)) hkd (by rw [sizeLine_eq]; omega), ?_⟩
          have ndt : ∀ xs, ¬ Rd H14 dd (.tup xs) := fun xs z => by
            rcases z with z | ⟨o, z⟩ <;> (rw [hkd] at z; cases z)
          have tk : TK H14 (upd H14 dd (.dK (putK kvs (Sum.inr (efText c e.1) : Key) (.ref u)))) := TK.upd ndt
          refine ⟨ext_upd_new e14 hdd, ⟨_, _, rfl⟩, _, upd_same, ?_, fun m hm f hf => ?_⟩
          · have : (putK kvs (Sum.inr (efText c e.1) : Key) (V.ref u)).length ≤ kvs.length + 1 := by
              unfold putK
              split
              · rw [List.length_map]; omega
              · rw [List.length_append]; exact Nat.le_refl _
            omega
          · rw [valV_put]
            by_cases hmj : m = j
            · subst hmj
              rw [ej] at hf
              cases hf
              exact ⟨u, if_pos rfl, dp_tk tk _ _ (tupy_idx _) hidx⟩
            · obtain ⟨u', h1, h2⟩ := hkv m (by omega) f hf
              have hne : ¬ (Sum.inr (efText c f.1) : Key) = Sum.inr (efText c e.1) := fun z => by
                have z1 := Sum.inr.inj z
                have rf := rF f (List.mem_of_getElem? hf)
                have z2 := efText_inj hc rf.1 r1.1 rf.2 r1.2 z1
                have hnd := W.nd
                have hm1 : (F.map (·.1))[m]? = some f.1 := by rw [List.getElem?_map, hf]; rfl
                have hj1 : (F.map (·.1))[j]? = some e.1 := by rw [List.getElem?_map, ej]; rfl
                rw [z2] at hm1
                exact hmj ((List.getElem?_inj (List.getElem?_eq_some_iff.mp hm1).1 hnd).mp (hm1.trans hj1.symm))
              exact ⟨u', by rw [if_neg hne]; exact h1, dp_tk tk _ _ (tupy_idx _) h2⟩
        rintro σ14 H14 ⟨e14, ⟨c11, c12, rfl⟩, kvs, hkd, _, hkv⟩
        -- the words
        obtain ⟨xs, hx, hI⟩ := hE8.ext (e12.trans e14)
        have hxl := hI.len
        rw [List.length_map] at hxl
        refine ⟨_, rfl, l', xs, rfl, hx, by omega, fun H15 pw e15 hW => ?_⟩
        obtain ⟨ws, hws, hwd⟩ := id hW
        refine ⟨pw, rfl, ⟨_, SqL.of hws⟩, for_list (K := K) (a := pw) (xs := ws) (fun j σ H' => Ext H15 H' ∧ ∃ c12 c13, σ = [some (.ref a), some (.int (0 + (i : Nat))), some (.ref p), some (.int (c : Int)), some (.ref l'), d5', d6', d7', some (.ref q'), some (.int (F.length : Int)), some (.ref dd), c11, c12, c13, b14])
          ⟨Ext.rfl', _, _, rfl⟩ (fun j σ H' _ z => SqL.of (z.1 _ _ hws)) ?_ ?_⟩
        · rintro j x σ H16 hxj ⟨e16, c12', c13', rfl⟩
          have hwl := dpAll_len hwd
          rw [List.length_map] at hwl
          have hjl : j < (wordsN xs.length 4).2.length := by have := (List.getElem?_eq_some_iff.mp hxj).1; omega
          have ej : (wordsN xs.length 4).2[j]? = some (wordsN xs.length 4).2[j] := List.getElem?_eq_getElem hjl
          have hlt := (wordsN_lt xs.length 4).2 _ (List.getElem_mem hjl)
          generalize (wordsN xs.length 4).2[j] = u at ej hlt
          obtain ⟨x', ex', dx'⟩ := dpAll_get hwd (show ((wordsN xs.length 4).2.map idxD)[j]? = some (idxD u) by rw [List.getElem?_map, ej]; rfl)
          rw [hxj] at ex'
          cases ex'
          have du := dp_ext' e16 dx'
          have hult : ∀ m ∈ u, m < G'.length := fun m hm => by have := hlt m hm; omega
          obtain ⟨f, hf, ef, sf⟩ := W.least u hult
          obtain ⟨fi, hfi, efi⟩ := List.mem_iff_getElem.mp hf
          obtain ⟨uf, hval, hdf⟩ := hkv fi (by omega) f (by rw [List.getElem?_eq_getElem hfi, efi])
          have X16 := (((e12.trans e14).trans e15).trans e16)
          obtain ⟨tw, rfl, hsw⟩ := idx_inv du
          refine ⟨_, rfl, _, rfl, _, rfl, l', c, .ref tw, G', u, rfl, hE8.ext X16, hG', du, hult, fun H17 pp e17 hpp17 => ?_⟩
          have rp := rk u hult
          obtain ⟨dp', tp', gp', _⟩ := id hpp17
          refine ⟨pp, dp', _, rfl, gp', pp, c, _, rfl, hpp17, c2, rp.1, Nat.le_trans (shown_few hc rp.1 rp.2) (by decide), _, rfl, ?_⟩
          have hk17 : H17 dd = some (.dK kvs) := e17 _ _ (e16 _ _ (e15 _ _ hkd))
          have hget : DGet H17 dd (.str (efText c (prodI c G' u))) (some (.ref uf)) := by
            have h := DGet.k (k := (Sum.inr (efText c f.1) : Key)) hk17
            rw [hval, ef] at h
            exact h
          refine ⟨dd, .ref uf, rfl, hget, ?_⟩
          have df17 := dp_ext' e17 (dp_ext' e16 (dp_ext' e15 hdf))
          have du17 := dp_ext' e17 du
          obtain ⟨_, z1, hsf⟩ := idx_inv df17
          cases z1
          have hsw17 := hsw.ext e17
          refine ⟨_, rfl, uf, _, rfl, .inr hsf, _, rfl, two, fun t1 nt1 => ?_⟩
          have w1 := Ext.upd (o := HO.tup [.int ((f.2.map fun i => V.int (i : Nat)).length : Int), .ref uf]) nt1
          refine ⟨_, rfl, tw, _, rfl, .inr (hsw17.ext w1), _, rfl, two, fun t2 nt2 => ?_⟩
          have w2 := Ext.upd (o := HO.tup [.int ((u.map fun i => V.int (i : Nat)).length : Int), .ref tw]) nt2
          have key : ∀ {Hk : Hp} {t : Addr} {z : List Nat} {b : Addr}, Hk t = some (.tup [.int ((z.map fun i => V.int (i : Nat)).length : Int), .ref b]) → Dp K Hk (.ref b) (idxD z) → Dp K Hk (.ref t) (keyD z) := fun {Hk t z b} h1 h2 => by
            rw [List.length_map] at h1
            exact .tup (SqT.of h1) (.cons (.int _) (.cons h2 .nil))
          refine ⟨keyD f.2, keyD u, key (w2 _ _ upd_same) (dp_ext' (w1.trans w2) df17), key upd_same (dp_ext' (w1.trans w2) du17), keyD_alike _ _, (fun z => nomatch z), Nat.le_trans (keyD_depth _) (by decide), false, ?_, iteF ?_⟩
          · show V.bl (PySem.W.dataLt (keyD u) (keyD f.2)) = V.bl false
            rw [keyD_lt, sle_not sf]
          · exact ⟨((e16.trans e17).trans w1).trans w2, _, _, rfl⟩
        · rintro σ16 H16 ⟨e16, c12', c13', rfl⟩
          exact ⟨e0.trans (X12.trans ((e14.trans e15).trans e16)), _, _, _, _, _, _, _, _, _, _, _, _, _, _, rfl⟩
end
end K30
set_option maxHeartbeats 4000000
/-! the law's own end: as HandS.Ends tells it, for a def that is entered while no repr is under way -/
namespace K30
open PySem PySem.Spec PyProof.Rows L2
/-- FnOk's promise at the caller of the law alone -/
theorem law_callG {P : Program} {w : World} {K : PySem.W.Frag} {mg mb : Str → Option Value} {CX : CXT} {k : Nat} {fa a : Addr} {fd : FuncData} {x : Str} {sp : Sp} {s₁ : Shared} {vs : List Value} {ns : List Int}
    (KX : K.In s₁.heap) (hns : s₁.heap.Ns mainGlobals mg) (hb : s₁.heap.Ns builtinsNs mb) (hbb : ∀ x : Str, x ≠ "__name__" → mb x = bootBuiltins x) (hlim : s₁.heap.NoLimit) (hg : s₁.gens = #[])
    (ha : s₁.heap.get? a = some { cls := .type "list", data := .seq vs.toArray }) (hi : IntsAre vs ns) (hl : ns.length ≤ sizeLine) (hr : Room k callerA)
    (F : ∀ base : Heap, K.In base → base.Ns mainGlobals mg → FnG P w K mg base CX k fa fd [x] sp) (hbind : ∀ (s : Shared) (u : Value), BindsTo s fd ⟨[u], []⟩ [(x, u)])
    (hsp : ∀ H : Hp, Only H → SqL K H a (ns.map V.int) → sp [.ref a] H (fun v _ => v = .bl true) fun _ _ _ => False)
    (hCX : ∀ H e s', CX [] H s₁ (fun _ _ _ => False) e s' → False) :
    codeAny (model P w) callerA (.call (.ref fa) ⟨[.ref a], []⟩) (fun r s' => r = .ok (.ret (.bool true)) ∧ OldK s₁.heap s'.heap ∧ s'.os = s₁.os ∧ AllBare s'.gens) s₁ := by
  have rv := vals_ints hi
  have core : ∀ H : Hp, Only H → SqL K H a (ns.map V.int) → HOk P w H s₁.heap → (∀ b, H b ≠ none → b = a) → (H a ≠ none → K.lookup a = none) →
      codeAny (model P w) callerA (.call (.ref fa) ⟨[.ref a], []⟩) (fun r s' => r = .ok (.ret (.bool true)) ∧ OldK s₁.heap s'.heap ∧ s'.os = s₁.os ∧ AllBare s'.gens) s₁ := by
    intro H only script hok one free
    have untracked : ∀ {b : Addr}, (H b ≠ none → False) → H b = none := fun {b} h => by
      cases q : H b with
      | none => rfl
      | some u => exact (h (by rw [q]; exact fun z => nomatch z)).elim
    have dicts : ∀ {b : Addr} {o : Obj} {es : Array DictEntry} {ep : Nat}, s₁.heap.get? b = some o → o.data = .dict es ep → H b = none := fun {b o es ep} e d => untracked fun z => by
      have eb := one b z
      subst eb
      rw [ha] at e; cases e
      have d' : Data.seq vs.toArray _ = Data.dict es ep := d
      cases d'
    have names : ∀ {b : Addr} {m : Str → Option Value}, s₁.heap.Ns b m → (hidT s₁.heap H).Ns b m := fun {b m} ⟨o, es, ep, e, d, r⟩ => ⟨o, es, ep, hidT_get e (dicts e d), d, r⟩
    have written : K.In (hidT s₁.heap H) := fun b o e => hidT_get (KX b o e) (untracked fun z => by
      have eb := one b z
      subst eb
      rw [free z] at e; cases e)
    have mod : Mod K mg (hidT s₁.heap H) := ⟨written, names hns, ⟨mb, names hb, hbb⟩, let ⟨mc, h1, h2⟩ := hlim; ⟨mc, names h1, h2⟩⟩
    have e0 : Env0 P w K mg (hidT s₁.heap H) callerA [] s₁ H := ⟨rfl, mod, fun b o e => of_hidT e, Nat.le_of_eq (hidT_size _ _), trivial, fun b hb => absurd (show b ∈ ([] : List Addr) from hb) (by simp), hok, .of_eq hg⟩
    refine codeAny_mono ((F _ written (names hns)).run callerA [] s₁ H ⟨[.ref a], []⟩ [.ref a] [.ref a] _ _ rfl hr e0 (hbind s₁ (.ref a)) (.cons rfl .nil) (hsp H only script)) fun r s' h => ?_
    cases r with
    | error e => exact (hCX H e s' h).elim
    | ok fl =>
      cases fl with
      | next => exact False.elim h
      | brk => exact False.elim h
      | cont => exact False.elim h
      | ret u =>
        obtain ⟨v, H', os, bare, un, hok', r', q⟩ := h
        cases (show v = .bl true from q)
        obtain rfl : u = Value.bool true := r'
        refine ⟨rfl, OldK.of_keep fun b o e => ?_, os, bare⟩
        cases q : H b with
        | none => exact un.keep b o e q (by intro z; exact absurd (show b ∈ ([] : List Addr) from z) (by simp)) (by simp)
        | some u =>
          rcases only b with z | ⟨ob, xs, z⟩
          · rw [q] at z; cases z
          · obtain ⟨f1, _⟩ := hok b _ z
            obtain ⟨f2, _⟩ := hok' b _ (un.frzs b ob _ z)
            rw [e] at f1; cases f1
            exact f2
  cases hk : K.lookup a with
  | some o =>
    have e := KX a o hk
    rw [ha] at e
    cases e
    have nothing : ∀ (b : Addr) (u : HO), (fun _ : Addr => (none : Option HO)) b = some u → False := fun b u z => nomatch z
    exact core (fun _ => none) (fun _ => .inl rfl) (.inr ⟨_, vs.toArray, _, hk, rfl, rfl, rfl, by rw [List.size_toArray, hi.length]; exact hl, by simpa using rv⟩) (fun b u z => (nothing b u z).elim) (fun b z => absurd rfl z) fun z => absurd rfl z
  | none =>
    let Hs : Hp := fun b => if b = a then some (.frz { cls := .type "list", data := .seq vs.toArray } (.lst (ns.map V.int))) else none
    have at_ : Hs a = some (.frz { cls := .type "list", data := .seq vs.toArray } (.lst (ns.map V.int))) := if_pos rfl
    have off : ∀ {b : Addr}, ¬ b = a → Hs b = none := fun h => if_neg h
    refine core Hs (fun b => ?_) (.inl (.inr ⟨_, at_⟩)) (fun b u z => ?_) (fun b z => ?_) fun _ => hk
    · by_cases hb : b = a
      · subst hb; exact .inr ⟨_, _, at_⟩
      · exact .inl (off hb)
    · by_cases hb : b = a
      · subst hb
        rw [at_] at z
        cases z
        exact ⟨ha, by rw [List.length_map]; exact hl, vs, _, rv, ha⟩
      · rw [off hb] at z
        cases z
    · by_cases hb : b = a
      · exact hb
      · exact absurd (off hb) z
theorem walk_ofG {l : PySem.W.OpenLaw} {n k : Nat} {q : Program} {loose : List Str} {XP : (Str → Option Value) → Heap → Prop} {YP : World → Heap → Prop} {d : DefRec} {K : Params → PySem.W.Frag} {sp : PySem.W.Frag → Sp} {x : Str}
    (hn : l.most = some n) (hn2 : n ≤ sizeLine) (hdf : d.params.defaults = []) (hr : Room k callerA)
    (hY : ∀ (w : World) (h : Heap), YP w h → (K w.params).In h)
    (F : ∀ (w : World) (mg : Str → Option Value) (fa : Addr) (h : Heap), (K w.params).In h → h.Ns mainGlobals mg → mg d.name = some (.ref fa) →
      ∃ fd : FuncData, (∀ (s : Shared) (u : Value), BindsTo s fd ⟨[u], []⟩ [(x, u)]) ∧
        ∀ base : Heap, (K w.params).In base → base.Ns mainGlobals mg → FnG l.prog w (K w.params) mg base CX0 k fa fd [x] (sp (K w.params)))
    (hsp : ∀ (K : PySem.W.Frag) (H : Hp) (a : Addr) (ns : List Int), ns.length ≤ n → Only H → SqL K H a (ns.map V.int) → sp K [.ref a] H (fun v _ => v = .bl true) fun _ _ _ => False) :
    PySem.W.WalkO q loose XP YP l.row.toRowW d [] (fun f vs => PySem.call f vs) := by
  refine Att.attach_call hn hdf fun w s₀ s₁ mg mb fa o pm cd doc a vs ns G Y ho hd hcd hmg hobj hints hlen hg => ?_
  have KX := hY w _ Y
  obtain ⟨fd, hb, hF⟩ := F w mg fa _ KX G.T.g hmg
  exact law_callG KX G.T.g G.T.b G.T.builtins G.T.nolimit hg hobj hints (Nat.le_trans hlen hn2) hr hF hb (fun H hO hS => hsp _ H a ns hlen hO hS) fun H e s' z => z
theorem law_sp (K : PySem.W.Frag) (H : Hp) (a : Addr) (ns : List Int) (h : ns.length ≤ 63) (_ : Only H) (hS : SqL K H a (ns.map V.int)) : spLaw K [.ref a] H (fun v _ => v = .bl true) fun _ _ _ => False := ⟨a, ns, rfl, hS, h, fun _ => rfl⟩
end K30
set_option maxHeartbeats 4000000
namespace K30
open PySem L2 ClX
theorem exm_any {K : PySem.W.Frag} {A S : Addr} {b : Bool} (h1 : PySem.W.subIn K (.ref S) (.type "BaseException") = some true) (h2 : PySem.W.isClsIn K S = true) (h3 : PySem.W.typeIn K (.ref S) = some (.type "type")) (h4 : PySem.W.subIn K (.ref A) (.ref S) = some b) : PySem.W.exmOne K (.ref A) (.ref S) = some b := by
  have e1 : (PySem.W.subIn K (.ref S) (.type "BaseException") == some true) = true := by rw [h1] <;> rfl
  have e2 : ((PySem.W.clsIn K S).isSome && PySem.W.typeIn K (.ref S) == some (.type "type")) = true := by
    have h : (PySem.W.clsIn K S).isSome = true := h2
    rw [h, h3] <;> rfl
  show (if (PySem.W.subIn K (.ref S) (.type "BaseException") == some true) = true then (if ((PySem.W.clsIn K S).isSome && PySem.W.typeIn K (.ref S) == some (.type "type")) = true then PySem.W.subIn K (.ref A) (.ref S) else none) else none) = some b
  rw [if_pos e1, if_pos e2]
  exact h4
theorem kit_not {K : PySem.W.Frag} {C : Addr} (h2 : PySem.W.isClsIn K C = true) (h3 : PySem.W.typeIn K (.ref C) = some (.type "type")) (h4 : PySem.W.subIn K (.type "int") (.ref C) = some false) : PySem.W.kitOne K (.type "int") (.ref C) = some false := by
  have e2 : ((PySem.W.clsIn K C).isSome && PySem.W.typeIn K (.ref C) == some (.type "type")) = true := by
    have h : (PySem.W.clsIn K C).isSome = true := h2
    rw [h, h3] <;> rfl
  unfold PySem.W.kitOne
  rw [if_neg (show ¬ ((Value.type "int" == Value.ref C) = true) by intro z; cases (eq_of_beq z))]
  show (if ((PySem.W.clsIn K C).isSome && PySem.W.typeIn K (.ref C) == some (.type "type")) = true then PySem.W.subIn K (.type "int") (.ref C) else none) = _
  rw [if_pos e2]
  exact h4
theorem all_mk {l : PySem.W.OpenLaw} {w : World} {K : PySem.W.Frag} {h : Heap} {mg : Str → Option Value} {fa : Addr} (X : K.In h) (G : h.Ns mainGlobals mg) (hfa : mg "law" = some (.ref fa))
    {f_isTxt : Addr}
    {oc_isTxt dc_isTxt pm_isTxt cd_isTxt ct_isTxt kv_isTxt : Value}
    {od_isTxt an_isTxt : Option Addr}
    {sl_isTxt : Array (Option Value)}
    {f_isCap : Addr}
    {oc_isCap dc_isCap pm_isCap cd_isCap ct_isCap kv_isCap : Value}
    {od_isCap an_isCap : Option Addr}
    {sl_isCap : Array (Option Value)}
    {f_chkCap : Addr}
    {oc_chkCap dc_chkCap pm_chkCap cd_chkCap ct_chkCap kv_chkCap : Value}
    {od_chkCap an_chkCap : Option Addr}
    {sl_chkCap : Array (Option Value)}
    {f_isMode : Addr}
    {oc_isMode dc_isMode pm_isMode cd_isMode ct_isMode kv_isMode : Value}
    {od_isMode an_isMode : Option Addr}
    {sl_isMode : Array (Option Value)}
    {f_chkMode : Addr}
    {oc_chkMode dc_chkMode pm_chkMode cd_chkMode ct_chkMode kv_chkMode : Value}
    {od_chkMode an_chkMode : Option Addr}
    {sl_chkMode : Array (Option Value)}
    {f_span : Addr}
    {oc_span dc_span pm_span cd_span ct_span kv_span : Value}
    {od_span an_span : Option Addr}
    {sl_span : Array (Option Value)}
    {f_parse : Addr}
    {oc_parse dc_parse pm_parse cd_parse ct_parse kv_parse : Value}
    {od_parse an_parse : Option Addr}
    {sl_parse : Array (Option Value)}
    {f_items : Addr}
    {oc_items dc_items pm_items cd_items ct_items kv_items : Value}
    {od_items an_items : Option Addr}
    {sl_items : Array (Option Value)}
    {f_isRow : Addr}
    {oc_isRow dc_isRow pm_isRow cd_isRow ct_isRow kv_isRow : Value}
    {od_isRow an_isRow : Option Addr}
    {sl_isRow : Array (Option Value)}
    {f_jrow : Addr}
    {oc_jrow dc_jrow pm_jrow cd_jrow ct_jrow kv_jrow : Value}
    {od_jrow an_jrow : Option Addr}
    {sl_jrow : Array (Option Value)}
    {f_jrows : Addr}
    {oc_jrows dc_jrows pm_jrows cd_jrows ct_jrows kv_jrows : Value}
    {od_jrows an_jrows : Option Addr}
    {sl_jrows : Array (Option Value)}
    {f_idRows : Addr}
    {oc_idRows dc_idRows pm_idRows cd_idRows ct_idRows kv_idRows : Value}
    {od_idRows an_idRows : Option Addr}
    {sl_idRows : Array (Option Value)}
    {f_same : Addr}
    {oc_same dc_same pm_same cd_same ct_same kv_same : Value}
    {od_same an_same : Option Addr}
    {sl_same : Array (Option Value)}
    {f_chkE : Addr}
    {oc_chkE dc_chkE pm_chkE cd_chkE ct_chkE kv_chkE : Value}
    {od_chkE an_chkE : Option Addr}
    {sl_chkE : Array (Option Value)}
    {f_rowAfter : Addr}
    {oc_rowAfter dc_rowAfter pm_rowAfter cd_rowAfter ct_rowAfter kv_rowAfter : Value}
    {od_rowAfter an_rowAfter : Option Addr}
    {sl_rowAfter : Array (Option Value)}
    {f_rowsOf : Addr}
    {oc_rowsOf dc_rowsOf pm_rowsOf cd_rowsOf ct_rowsOf kv_rowsOf : Value}
    {od_rowsOf an_rowsOf : Option Addr}
    {sl_rowsOf : Array (Option Value)}
    {f_effOf : Addr}
    {oc_effOf dc_effOf pm_effOf cd_effOf ct_effOf kv_effOf : Value}
    {od_effOf an_effOf : Option Addr}
    {sl_effOf : Array (Option Value)}
    {f_draws : Addr}
    {oc_draws dc_draws pm_draws cd_draws ct_draws kv_draws : Value}
    {od_draws an_draws : Option Addr}
    {sl_draws : Array (Option Value)}
    {f_draw : Addr}
    {oc_draw dc_draw pm_draw cd_draw ct_draw kv_draw : Value}
    {od_draw an_draw : Option Addr}
    {sl_draw : Array (Option Value)}
    {f_lgen : Addr}
    {oc_lgen dc_lgen pm_lgen cd_lgen ct_lgen kv_lgen : Value}
    {od_lgen an_lgen : Option Addr}
    {sl_lgen : Array (Option Value)}
    {f_words : Addr}
    {oc_words dc_words pm_words cd_words ct_words kv_words : Value}
    {od_words an_words : Option Addr}
    {sl_words : Array (Option Value)}
    {f_prod : Addr}
    {oc_prod dc_prod pm_prod cd_prod ct_prod kv_prod : Value}
    {od_prod an_prod : Option Addr}
    {sl_prod : Array (Option Value)}
    {f_closed : Addr}
    {oc_closed dc_closed pm_closed cd_closed ct_closed kv_closed : Value}
    {od_closed an_closed : Option Addr}
    {sl_closed : Array (Option Value)}
    {f_err : Addr}
    {oc_err dc_err pm_err cd_err ct_err kv_err : Value}
    {od_err an_err : Option Addr}
    {sl_err : Array (Option Value)}
    {f_fix : Addr}
    {oc_fix dc_fix pm_fix cd_fix ct_fix kv_fix : Value}
    {od_fix an_fix : Option Addr}
    {sl_fix : Array (Option Value)}
    {f_law : Addr}
    {oc_law dc_law pm_law cd_law ct_law kv_law : Value}
    {od_law an_law : Option Addr}
    {sl_law : Array (Option Value)}
    {f_isInt T_isInt : Addr}
    {oc_isInt dc_isInt pm_isInt cd_isInt ct_isInt kv_isInt : Value}
    {od_isInt an_isInt : Option Addr}
    {sl_isInt : Array (Option Value)}
    {tcl_isInt : Value} {tdd_isInt : Option Addr} {tn_isInt : Nat} {tsl_isInt : Array (Option Value)}
    {tk_isInt : Tok}
    {f_chkInt T_chkInt : Addr}
    {oc_chkInt dc_chkInt pm_chkInt cd_chkInt ct_chkInt kv_chkInt : Value}
    {od_chkInt an_chkInt : Option Addr}
    {sl_chkInt : Array (Option Value)}
    {tcl_chkInt : Value} {tdd_chkInt : Option Addr} {tn_chkInt : Nat} {tsl_chkInt : Array (Option Value)}
    {tk_chkInt : Tok}
    {f_isQ T_isQ : Addr}
    {oc_isQ dc_isQ pm_isQ cd_isQ ct_isQ kv_isQ : Value}
    {od_isQ an_isQ : Option Addr}
    {sl_isQ : Array (Option Value)}
    {tcl_isQ : Value} {tdd_isQ : Option Addr} {tn_isQ : Nat} {tsl_isQ : Array (Option Value)}
    {tk_isQ : Tok}
    {f_gen D_gen : Addr}
    {oc_gen dc_gen pm_gen cd_gen ct_gen : Value}
    {od_gen an_gen : Option Addr}
    {sl_gen : Array (Option Value)}
    {tk_gen : Tok}
    {z_LET : Str} {tk_LET : Tok}
    {z_TAKE : Str} {tk_TAKE : Tok}
    {z_STEPS : Str} {tk_STEPS : Tok}
    {tk_MOST tk_MG : Tok}
    {f_MODES : Addr}
    {mdd : Option Addr} {mn : Nat} {msl : Array (Option Value)} {mz0 mz1 mz2 : Str} {mt0 mt1 mt2 : Tok}
    {C : Addr}
    {f_init : Addr}
    {oc_init dc_init pm_init cd_init ct_init kv_init : Value}
    {od_init an_init : Option Addr}
    {sl_init : Array (Option Value)}
    {f_mul : Addr}
    {oc_mul dc_mul pm_mul cd_mul ct_mul kv_mul : Value}
    {od_mul an_mul : Option Addr}
    {sl_mul : Array (Option Value)}
    {f_eq : Addr}
    {oc_eq dc_eq pm_eq cd_eq ct_eq kv_eq : Value}
    {od_eq an_eq : Option Addr}
    {sl_eq : Array (Option Value)}
    {f_repr : Addr}
    {oc_repr dc_repr pm_repr cd_repr ct_repr kv_repr : Value}
    {od_repr an_repr : Option Addr}
    {sl_repr : Array (Option Value)}
    {f_cap p_cap : Addr}
    {r_cap : List Value}
    {oc_cap dc_cap pm_cap cd_cap ct_cap kv_cap : Value}
    {od_cap an_cap : Option Addr}
    {sl_cap : Array (Option Value)}
    {f_rows p_rows : Addr}
    {r_rows : List Value}
    {oc_rows dc_rows pm_rows cd_rows ct_rows kv_rows : Value}
    {od_rows an_rows : Option Addr}
    {sl_rows : Array (Option Value)}
    {f_ident p_ident : Addr}
    {r_ident : List Value}
    {oc_ident dc_ident pm_ident cd_ident ct_ident kv_ident : Value}
    {od_ident an_ident : Option Addr}
    {sl_ident : Array (Option Value)}
    {f_fail p_fail : Addr}
    {r_fail : List Value}
    {oc_fail dc_fail pm_fail cd_fail ct_fail kv_fail : Value}
    {od_fail an_fail : Option Addr}
    {sl_fail : Array (Option Value)}
    {C_XI f_XI N_XI : Addr}
    {nm_XI q_XI : Str} {bs_XI bm_XI sub_XI : List Value} {sn_XI : List Str} {ab_XI : Bool} {col_XI : Option Bool} {dd_XI : Option Addr} {k0_XI k1_XI k2_XI k3_XI k5_XI : Option Value}
    {oc_XI dc_XI pm_XI cd_XI ct_XI kv_XI : Value}
    {od_XI an_XI : Option Addr}
    {sl_XI : Array (Option Value)}
    {C_XM f_XM N_XM : Addr}
    {nm_XM q_XM : Str} {bs_XM bm_XM sub_XM : List Value} {sn_XM : List Str} {ab_XM : Bool} {col_XM : Option Bool} {dd_XM : Option Addr} {k0_XM k1_XM k2_XM k3_XM k5_XM : Option Value}
    {oc_XM dc_XM pm_XM cd_XM ct_XM kv_XM : Value}
    {od_XM an_XM : Option Addr}
    {sl_XM : Array (Option Value)}
    {C_XL f_XL N_XL : Addr}
    {nm_XL q_XL : Str} {bs_XL sub_XL : List Value} {sn_XL : List Str} {ab_XL : Bool} {col_XL : Option Bool} {dd_XL : Option Addr} {k0_XL k1_XL k2_XL k3_XL k5_XL : Option Value}
    {oc_XL dc_XL pm_XL cd_XL ct_XL kv_XL : Value}
    {od_XL an_XL : Option Addr}
    {sl_XL : Array (Option Value)}
    {C_XN : Addr}
    (a_isTxt : PySem.W.nsIn K mainGlobals "is_text_of" = some (some (.ref f_isTxt)))
    (l_isTxt : K.lookup f_isTxt = some ⟨oc_isTxt, od_isTxt, .func (PySem.W.fnOf "is_text_of" "is_text_of" (defArgs sIsTxt) (defBody sIsTxt) (defScope sIsTxt) .none kv_isTxt dc_isTxt pm_isTxt an_isTxt cd_isTxt ct_isTxt), sl_isTxt⟩)
    (c_isTxt : PySem.W.codeIn K cd_isTxt "is_text_of" = true)
    (k_isTxt : PySem.W.keepIn K (.ref f_isTxt) = true)
    (a_isCap : PySem.W.nsIn K mainGlobals "is_capacity" = some (some (.ref f_isCap)))
    (l_isCap : K.lookup f_isCap = some ⟨oc_isCap, od_isCap, .func (PySem.W.fnOf "is_capacity" "is_capacity" (defArgs sIsCap) (defBody sIsCap) (defScope sIsCap) .none kv_isCap dc_isCap pm_isCap an_isCap cd_isCap ct_isCap), sl_isCap⟩)
    (c_isCap : PySem.W.codeIn K cd_isCap "is_capacity" = true)
    (k_isCap : PySem.W.keepIn K (.ref f_isCap) = true)
    (a_chkCap : PySem.W.nsIn K mainGlobals "check_capacity" = some (some (.ref f_chkCap)))
    (l_chkCap : K.lookup f_chkCap = some ⟨oc_chkCap, od_chkCap, .func (PySem.W.fnOf "check_capacity" "check_capacity" (defArgs sChkCap) (defBody sChkCap) (defScope sChkCap) .none kv_chkCap dc_chkCap pm_chkCap an_chkCap cd_chkCap ct_chkCap), sl_chkCap⟩)
    (c_chkCap : PySem.W.codeIn K cd_chkCap "check_capacity" = true)
    (k_chkCap : PySem.W.keepIn K (.ref f_chkCap) = true)
    (a_isMode : PySem.W.nsIn K mainGlobals "is_mode" = some (some (.ref f_isMode)))
    (l_isMode : K.lookup f_isMode = some ⟨oc_isMode, od_isMode, .func (PySem.W.fnOf "is_mode" "is_mode" (defArgs sIsMode) (defBody sIsMode) (defScope sIsMode) .none kv_isMode dc_isMode pm_isMode an_isMode cd_isMode ct_isMode), sl_isMode⟩)
    (c_isMode : PySem.W.codeIn K cd_isMode "is_mode" = true)
    (k_isMode : PySem.W.keepIn K (.ref f_isMode) = true)
    (a_chkMode : PySem.W.nsIn K mainGlobals "check_mode" = some (some (.ref f_chkMode)))
    (l_chkMode : K.lookup f_chkMode = some ⟨oc_chkMode, od_chkMode, .func (PySem.W.fnOf "check_mode" "check_mode" (defArgs sChkMode) (defBody sChkMode) (defScope sChkMode) .none kv_chkMode dc_chkMode pm_chkMode an_chkMode cd_chkMode ct_chkMode), sl_chkMode⟩)
    (c_chkMode : PySem.W.codeIn K cd_chkMode "check_mode" = true)
    (k_chkMode : PySem.W.keepIn K (.ref f_chkMode) = true)
    (a_span : PySem.W.nsIn K mainGlobals "span_of" = some (some (.ref f_span)))
    (l_span : K.lookup f_span = some ⟨oc_span, od_span, .func (PySem.W.fnOf "span_of" "span_of" (defArgs sSpan) (defBody sSpan) (defScope sSpan) .none kv_span dc_span pm_span an_span cd_span ct_span), sl_span⟩)
    (c_span : PySem.W.codeIn K cd_span "span_of" = true)
    (k_span : PySem.W.keepIn K (.ref f_span) = true)
    (a_parse : PySem.W.nsIn K mainGlobals "parse" = some (some (.ref f_parse)))
    (l_parse : K.lookup f_parse = some ⟨oc_parse, od_parse, .func (PySem.W.fnOf "parse" "parse" (defArgs sParse) (defBody sParse) (defScope sParse) .none kv_parse dc_parse pm_parse an_parse cd_parse ct_parse), sl_parse⟩)
    (c_parse : PySem.W.codeIn K cd_parse "parse" = true)
    (k_parse : PySem.W.keepIn K (.ref f_parse) = true)
    (a_items : PySem.W.nsIn K mainGlobals "items_of" = some (some (.ref f_items)))
    (l_items : K.lookup f_items = some ⟨oc_items, od_items, .func (PySem.W.fnOf "items_of" "items_of" (defArgs sItems) (defBody sItems) (defScope sItems) .none kv_items dc_items pm_items an_items cd_items ct_items), sl_items⟩)
    (c_items : PySem.W.codeIn K cd_items "items_of" = true)
    (k_items : PySem.W.keepIn K (.ref f_items) = true)
    (a_isRow : PySem.W.nsIn K mainGlobals "is_row" = some (some (.ref f_isRow)))
    (l_isRow : K.lookup f_isRow = some ⟨oc_isRow, od_isRow, .func (PySem.W.fnOf "is_row" "is_row" (defArgs sIsRow) (defBody sIsRow) (defScope sIsRow) .none kv_isRow dc_isRow pm_isRow an_isRow cd_isRow ct_isRow), sl_isRow⟩)
    (c_isRow : PySem.W.codeIn K cd_isRow "is_row" = true)
    (k_isRow : PySem.W.keepIn K (.ref f_isRow) = true)
    (a_jrow : PySem.W.nsIn K mainGlobals "joined_row" = some (some (.ref f_jrow)))
    (l_jrow : K.lookup f_jrow = some ⟨oc_jrow, od_jrow, .func (PySem.W.fnOf "joined_row" "joined_row" (defArgs sJrow) (defBody sJrow) (defScope sJrow) .none kv_jrow dc_jrow pm_jrow an_jrow cd_jrow ct_jrow), sl_jrow⟩)
    (c_jrow : PySem.W.codeIn K cd_jrow "joined_row" = true)
    (k_jrow : PySem.W.keepIn K (.ref f_jrow) = true)
    (a_jrows : PySem.W.nsIn K mainGlobals "joined_rows" = some (some (.ref f_jrows)))
    (l_jrows : K.lookup f_jrows = some ⟨oc_jrows, od_jrows, .func (PySem.W.fnOf "joined_rows" "joined_rows" (defArgs sJrows) (defBody sJrows) (defScope sJrows) .none kv_jrows dc_jrows pm_jrows an_jrows cd_jrows ct_jrows), sl_jrows⟩)
    (c_jrows : PySem.W.codeIn K cd_jrows "joined_rows" = true)
    (k_jrows : PySem.W.keepIn K (.ref f_jrows) = true)
    (a_idRows : PySem.W.nsIn K mainGlobals "identity_rows" = some (some (.ref f_idRows)))
    (l_idRows : K.lookup f_idRows = some ⟨oc_idRows, od_idRows, .func (PySem.W.fnOf "identity_rows" "identity_rows" (defArgs sIdRows) (defBody sIdRows) (defScope sIdRows) .none kv_idRows dc_idRows pm_idRows an_idRows cd_idRows ct_idRows), sl_idRows⟩)
    (c_idRows : PySem.W.codeIn K cd_idRows "identity_rows" = true)
    (k_idRows : PySem.W.keepIn K (.ref f_idRows) = true)
    (a_same : PySem.W.nsIn K mainGlobals "check_same" = some (some (.ref f_same)))
    (l_same : K.lookup f_same = some ⟨oc_same, od_same, .func (PySem.W.fnOf "check_same" "check_same" (defArgs sSame) (defBody sSame) (defScope sSame) .none kv_same dc_same pm_same an_same cd_same ct_same), sl_same⟩)
    (c_same : PySem.W.codeIn K cd_same "check_same" = true)
    (k_same : PySem.W.keepIn K (.ref f_same) = true)
    (a_chkE : PySem.W.nsIn K mainGlobals "check_effects" = some (some (.ref f_chkE)))
    (l_chkE : K.lookup f_chkE = some ⟨oc_chkE, od_chkE, .func (PySem.W.fnOf "check_effects" "check_effects" (defArgs sChkE) (defBody sChkE) (defScope sChkE) .none kv_chkE dc_chkE pm_chkE an_chkE cd_chkE ct_chkE), sl_chkE⟩)
    (c_chkE : PySem.W.codeIn K cd_chkE "check_effects" = true)
    (k_chkE : PySem.W.keepIn K (.ref f_chkE) = true)
    (a_rowAfter : PySem.W.nsIn K mainGlobals "row_after" = some (some (.ref f_rowAfter)))
    (l_rowAfter : K.lookup f_rowAfter = some ⟨oc_rowAfter, od_rowAfter, .func (PySem.W.fnOf "row_after" "row_after" (defArgs sRowAfter) (defBody sRowAfter) (defScope sRowAfter) .none kv_rowAfter dc_rowAfter pm_rowAfter an_rowAfter cd_rowAfter ct_rowAfter), sl_rowAfter⟩)
    (c_rowAfter : PySem.W.codeIn K cd_rowAfter "row_after" = true)
    (k_rowAfter : PySem.W.keepIn K (.ref f_rowAfter) = true)
    (a_rowsOf : PySem.W.nsIn K mainGlobals "rows_of" = some (some (.ref f_rowsOf)))
    (l_rowsOf : K.lookup f_rowsOf = some ⟨oc_rowsOf, od_rowsOf, .func (PySem.W.fnOf "rows_of" "rows_of" (defArgs sRowsOf) (defBody sRowsOf) (defScope sRowsOf) .none kv_rowsOf dc_rowsOf pm_rowsOf an_rowsOf cd_rowsOf ct_rowsOf), sl_rowsOf⟩)
    (c_rowsOf : PySem.W.codeIn K cd_rowsOf "rows_of" = true)
    (k_rowsOf : PySem.W.keepIn K (.ref f_rowsOf) = true)
    (a_effOf : PySem.W.nsIn K mainGlobals "effect_of" = some (some (.ref f_effOf)))
    (l_effOf : K.lookup f_effOf = some ⟨oc_effOf, od_effOf, .func (PySem.W.fnOf "effect_of" "effect_of" (defArgs sEffOf) (defBody sEffOf) (defScope sEffOf) .none kv_effOf dc_effOf pm_effOf an_effOf cd_effOf ct_effOf), sl_effOf⟩)
    (c_effOf : PySem.W.codeIn K cd_effOf "effect_of" = true)
    (k_effOf : PySem.W.keepIn K (.ref f_effOf) = true)
    (a_draws : PySem.W.nsIn K mainGlobals "_law_draws" = some (some (.ref f_draws)))
    (l_draws : K.lookup f_draws = some ⟨oc_draws, od_draws, .func (PySem.W.fnOf "_law_draws" "_law_draws" (defArgs sDraws) (defBody sDraws) (defScope sDraws) .none kv_draws dc_draws pm_draws an_draws cd_draws ct_draws), sl_draws⟩)
    (c_draws : PySem.W.codeIn K cd_draws "_law_draws" = true)
    (k_draws : PySem.W.keepIn K (.ref f_draws) = true)
    (a_draw : PySem.W.nsIn K mainGlobals "_law_draw" = some (some (.ref f_draw)))
    (l_draw : K.lookup f_draw = some ⟨oc_draw, od_draw, .func (PySem.W.fnOf "_law_draw" "_law_draw" (defArgs sDraw) (defBody sDraw) (defScope sDraw) .none kv_draw dc_draw pm_draw an_draw cd_draw ct_draw), sl_draw⟩)
    (c_draw : PySem.W.codeIn K cd_draw "_law_draw" = true)
    (k_draw : PySem.W.keepIn K (.ref f_draw) = true)
    (a_lgen : PySem.W.nsIn K mainGlobals "_law_generated" = some (some (.ref f_lgen)))
    (l_lgen : K.lookup f_lgen = some ⟨oc_lgen, od_lgen, .func (PySem.W.fnOf "_law_generated" "_law_generated" (defArgs sLGen) (defBody sLGen) (defScope sLGen) .none kv_lgen dc_lgen pm_lgen an_lgen cd_lgen ct_lgen), sl_lgen⟩)
    (c_lgen : PySem.W.codeIn K cd_lgen "_law_generated" = true)
    (k_lgen : PySem.W.keepIn K (.ref f_lgen) = true)
    (a_words : PySem.W.nsIn K mainGlobals "_law_words" = some (some (.ref f_words)))
    (l_words : K.lookup f_words = some ⟨oc_words, od_words, .func (PySem.W.fnOf "_law_words" "_law_words" (defArgs sWords) (defBody sWords) (defScope sWords) .none kv_words dc_words pm_words an_words cd_words ct_words), sl_words⟩)
    (c_words : PySem.W.codeIn K cd_words "_law_words" = true)
    (k_words : PySem.W.keepIn K (.ref f_words) = true)
    (a_prod : PySem.W.nsIn K mainGlobals "_law_product" = some (some (.ref f_prod)))
    (l_prod : K.lookup f_prod = some ⟨oc_prod, od_prod, .func (PySem.W.fnOf "_law_product" "_law_product" (defArgs sProd) (defBody sProd) (defScope sProd) .none kv_prod dc_prod pm_prod an_prod cd_prod ct_prod), sl_prod⟩)
    (c_prod : PySem.W.codeIn K cd_prod "_law_product" = true)
    (k_prod : PySem.W.keepIn K (.ref f_prod) = true)
    (a_closed : PySem.W.nsIn K mainGlobals "_law_closed" = some (some (.ref f_closed)))
    (l_closed : K.lookup f_closed = some ⟨oc_closed, od_closed, .func (PySem.W.fnOf "_law_closed" "_law_closed" (defArgs sClosed) (defBody sClosed) (defScope sClosed) .none kv_closed dc_closed pm_closed an_closed cd_closed ct_closed), sl_closed⟩)
    (c_closed : PySem.W.codeIn K cd_closed "_law_closed" = true)
    (k_closed : PySem.W.keepIn K (.ref f_closed) = true)
    (a_err : PySem.W.nsIn K mainGlobals "_law_error" = some (some (.ref f_err)))
    (l_err : K.lookup f_err = some ⟨oc_err, od_err, .func (PySem.W.fnOf "_law_error" "_law_error" (defArgs sErr) (defBody sErr) (defScope sErr) .none kv_err dc_err pm_err an_err cd_err ct_err), sl_err⟩)
    (c_err : PySem.W.codeIn K cd_err "_law_error" = true)
    (k_err : PySem.W.keepIn K (.ref f_err) = true)
    (a_fix : PySem.W.nsIn K mainGlobals "_law_fixed_right" = some (some (.ref f_fix)))
    (l_fix : K.lookup f_fix = some ⟨oc_fix, od_fix, .func (PySem.W.fnOf "_law_fixed_right" "_law_fixed_right" (defArgs sFix) (defBody sFix) (defScope sFix) .none kv_fix dc_fix pm_fix an_fix cd_fix ct_fix), sl_fix⟩)
    (c_fix : PySem.W.codeIn K cd_fix "_law_fixed_right" = true)
    (k_fix : PySem.W.keepIn K (.ref f_fix) = true)
    (a_law : PySem.W.nsIn K mainGlobals "law" = some (some (.ref f_law)))
    (l_law : K.lookup f_law = some ⟨oc_law, od_law, .func (PySem.W.fnOf "law" "law" (defArgs sLaw) (defBody sLaw) (defScope sLaw) .none kv_law dc_law pm_law an_law cd_law ct_law), sl_law⟩)
    (c_law : PySem.W.codeIn K cd_law "law" = true)
    (k_law : PySem.W.keepIn K (.ref f_law) = true)
    (a_isInt : PySem.W.nsIn K mainGlobals "is_integer" = some (some (.ref f_isInt)))
    (l_isInt : K.lookup f_isInt = some ⟨oc_isInt, od_isInt, .func (PySem.W.fnOf "is_integer" "is_integer" (defArgs sIsInt) (defBody sIsInt) (defScope sIsInt) (.ref T_isInt) kv_isInt dc_isInt pm_isInt an_isInt cd_isInt ct_isInt), sl_isInt⟩)
    (c_isInt : PySem.W.codeIn K cd_isInt "is_integer" = true)
    (k_isInt : PySem.W.keepIn K (.ref f_isInt) = true)
    (t_isInt : K.lookup T_isInt = some ⟨tcl_isInt, tdd_isInt, .seq #[.int 0 tk_isInt] tn_isInt, tsl_isInt⟩)
    (a_chkInt : PySem.W.nsIn K mainGlobals "check_integer" = some (some (.ref f_chkInt)))
    (l_chkInt : K.lookup f_chkInt = some ⟨oc_chkInt, od_chkInt, .func (PySem.W.fnOf "check_integer" "check_integer" (defArgs sChkInt) (defBody sChkInt) (defScope sChkInt) (.ref T_chkInt) kv_chkInt dc_chkInt pm_chkInt an_chkInt cd_chkInt ct_chkInt), sl_chkInt⟩)
    (c_chkInt : PySem.W.codeIn K cd_chkInt "check_integer" = true)
    (k_chkInt : PySem.W.keepIn K (.ref f_chkInt) = true)
    (t_chkInt : K.lookup T_chkInt = some ⟨tcl_chkInt, tdd_chkInt, .seq #[.int 0 tk_chkInt, .none] tn_chkInt, tsl_chkInt⟩)
    (a_isQ : PySem.W.nsIn K mainGlobals "is_queue" = some (some (.ref f_isQ)))
    (l_isQ : K.lookup f_isQ = some ⟨oc_isQ, od_isQ, .func (PySem.W.fnOf "is_queue" "is_queue" (defArgs sIsQ) (defBody sIsQ) (defScope sIsQ) (.ref T_isQ) kv_isQ dc_isQ pm_isQ an_isQ cd_isQ ct_isQ), sl_isQ⟩)
    (c_isQ : PySem.W.codeIn K cd_isQ "is_queue" = true)
    (k_isQ : PySem.W.keepIn K (.ref f_isQ) = true)
    (t_isQ : K.lookup T_isQ = some ⟨tcl_isQ, tdd_isQ, .seq #[.int 100 tk_isQ] tn_isQ, tsl_isQ⟩)
    (a_gen : PySem.W.nsIn K mainGlobals "generated" = some (some (.ref f_gen)))
    (l_gen : K.lookup f_gen = some ⟨oc_gen, od_gen, .func (PySem.W.fnOf "generated" "generated" (defArgs sGen) (defBody sGen) (defScope sGen) .none (.ref D_gen) dc_gen pm_gen an_gen cd_gen ct_gen), sl_gen⟩)
    (c_gen : PySem.W.codeIn K cd_gen "generated" = true)
    (k_gen : PySem.W.keepIn K (.ref f_gen) = true)
    (d_gen : PySem.W.nsIn K D_gen "most" = some (some (.int 1000 tk_gen)))
    (a_LET : PySem.W.nsIn K mainGlobals "LETTERS" = some (some (.str z_LET tk_LET)))
    (e_LET : z_LET = S sLETTERS)
    (a_TAKE : PySem.W.nsIn K mainGlobals "TAKE" = some (some (.str z_TAKE tk_TAKE)))
    (e_TAKE : z_TAKE = S [45])
    (a_STEPS : PySem.W.nsIn K mainGlobals "STEPS" = some (some (.str z_STEPS tk_STEPS)))
    (e_STEPS : z_STEPS = S sSTEPS)
    (a_MOST : PySem.W.nsIn K mainGlobals "MOST" = some (some (.int 100 tk_MOST)))
    (a_MG : PySem.W.nsIn K mainGlobals "MOST_GENERATED" = some (some (.int 2000 tk_MG)))
    (a_MODES : PySem.W.nsIn K mainGlobals "MODES" = some (some (.ref f_MODES)))
    (l_MODES : K.lookup f_MODES = some ⟨.type "tuple", mdd, .seq #[.str mz0 mt0, .str mz1 mt1, .str mz2 mt2] mn, msl⟩)
    (e_M0 : mz0 = modeS 0)
    (e_M1 : mz1 = modeS 1)
    (e_M2 : mz2 = modeS 2)
    (n_isinstance : PySem.W.nsIn K mainGlobals "isinstance" = some none)
    (n_int : PySem.W.nsIn K mainGlobals "int" = some none)
    (n_bool : PySem.W.nsIn K mainGlobals "bool" = some none)
    (n_str : PySem.W.nsIn K mainGlobals "str" = some none)
    (n_all : PySem.W.nsIn K mainGlobals "all" = some none)
    (n_len : PySem.W.nsIn K mainGlobals "len" = some none)
    (n_tuple : PySem.W.nsIn K mainGlobals "tuple" = some none)
    (n_list : PySem.W.nsIn K mainGlobals "list" = some none)
    (n_range : PySem.W.nsIn K mainGlobals "range" = some none)
    (n_enumerate : PySem.W.nsIn K mainGlobals "enumerate" = some none)
    (n_set : PySem.W.nsIn K mainGlobals "set" = some none)
    (n_sorted : PySem.W.nsIn K mainGlobals "sorted" = some none)
    (n_repr : PySem.W.nsIn K mainGlobals "repr" = some none)
    (n_max : PySem.W.nsIn K mainGlobals "max" = some none)
    (n_min : PySem.W.nsIn K mainGlobals "min" = some none)
    (a_E : PySem.W.nsIn K mainGlobals "Effect" = some (some (.ref C)))
    (E_pg : PySem.W.plainGet K C Str.empty = true)
    (E_hd : PySem.W.hasDictIn K C = true)
    (E_po : PySem.W.plainOver K C = true)
    (E_kp : PySem.W.keepIn K (.ref C) = true)
    (E_mk : PySem.W.makesIn K C = true)
    (E_ic : PySem.W.isClsIn K C = true)
    (E_ty : PySem.W.typeIn K (.ref C) = some (.type "type"))
    (E_in : PySem.W.subIn K (.type "int") (.ref C) = some false)
    (E_sf : PySem.W.selfFirst K C = true)
    (E_mo : PySem.W.mroIn K C (.type "object") = some true)
    (E_sa : PySem.W.findIn K (.ref C) "__setattr__" = some (some (.builtin "object.__setattr__")))
    (E_na : PySem.W.findIn K (.ref C) "all_rows" = some none)
    (E_cl : PySem.W.findIn K (.ref C) "__class__" = some (some (.builtin "object.__class__")))
    (E_ne : PySem.W.findIn K (.ref C) "__ne__" = some (some (.builtin "object.__ne__")))
    (E_gc : PySem.W.specialIn K (.builtin "object.__class__") "__get__" = some (some (.builtin "getset_descriptor.__get__")))
    (E_tc : PySem.W.takesIn K (.builtin "object.__class__") = some true)
    (h_init : PySem.W.findIn K (.ref C) "__init__" = some (some (.ref f_init)))
    (i_init : PySem.W.isFn K (.ref f_init) = true)
    (l_init : K.lookup f_init = some ⟨oc_init, od_init, .func (PySem.W.fnOf "__init__" "Effect.__init__" (defArgs (mE 0)) (defBody (mE 0)) (defScope (mE 0)) .none kv_init dc_init pm_init an_init cd_init ct_init), sl_init⟩)
    (c_init : PySem.W.codeIn K cd_init "Effect.__init__" = true)
    (k_init : PySem.W.keepIn K (.ref f_init) = true)
    (h_mul : PySem.W.findIn K (.ref C) "__mul__" = some (some (.ref f_mul)))
    (i_mul : PySem.W.isFn K (.ref f_mul) = true)
    (l_mul : K.lookup f_mul = some ⟨oc_mul, od_mul, .func (PySem.W.fnOf "__mul__" "Effect.__mul__" (defArgs (mE 13)) (defBody (mE 13)) (defScope (mE 13)) .none kv_mul dc_mul pm_mul an_mul cd_mul ct_mul), sl_mul⟩)
    (c_mul : PySem.W.codeIn K cd_mul "Effect.__mul__" = true)
    (k_mul : PySem.W.keepIn K (.ref f_mul) = true)
    (h_eq : PySem.W.findIn K (.ref C) "__eq__" = some (some (.ref f_eq)))
    (i_eq : PySem.W.isFn K (.ref f_eq) = true)
    (l_eq : K.lookup f_eq = some ⟨oc_eq, od_eq, .func (PySem.W.fnOf "__eq__" "Effect.__eq__" (defArgs (mE 15)) (defBody (mE 15)) (defScope (mE 15)) .none kv_eq dc_eq pm_eq an_eq cd_eq ct_eq), sl_eq⟩)
    (c_eq : PySem.W.codeIn K cd_eq "Effect.__eq__" = true)
    (k_eq : PySem.W.keepIn K (.ref f_eq) = true)
    (h_repr : PySem.W.findIn K (.ref C) "__repr__" = some (some (.ref f_repr)))
    (i_repr : PySem.W.isFn K (.ref f_repr) = true)
    (l_repr : K.lookup f_repr = some ⟨oc_repr, od_repr, .func (PySem.W.fnOf "__repr__" "Effect.__repr__" (defArgs (mE 16)) (defBody (mE 16)) (defScope (mE 16)) .none kv_repr dc_repr pm_repr an_repr cd_repr ct_repr), sl_repr⟩)
    (c_repr : PySem.W.codeIn K cd_repr "Effect.__repr__" = true)
    (k_repr : PySem.W.keepIn K (.ref f_repr) = true)
    (h_cap : PySem.W.findIn K (.ref C) "capacity" = some (some (.ref p_cap)))
    (g_cap : PySem.W.specialIn K (.ref p_cap) "__get__" = some (some (.builtin "property.__get__")))
    (w_cap : PySem.W.takesIn K (.ref p_cap) = some true)
    (r0_cap : PySem.W.recIn K p_cap "property" = some (.ref f_cap :: r_cap))
    (l_cap : K.lookup f_cap = some ⟨oc_cap, od_cap, .func (PySem.W.fnOf "capacity" "Effect.capacity" (defArgs (mE 3)) (defBody (mE 3)) (defScope (mE 3)) .none kv_cap dc_cap pm_cap an_cap cd_cap ct_cap), sl_cap⟩)
    (c_cap : PySem.W.codeIn K cd_cap "Effect.capacity" = true)
    (k_cap : PySem.W.keepIn K (.ref f_cap) = true)
    (h_rows : PySem.W.findIn K (.ref C) "rows" = some (some (.ref p_rows)))
    (g_rows : PySem.W.specialIn K (.ref p_rows) "__get__" = some (some (.builtin "property.__get__")))
    (w_rows : PySem.W.takesIn K (.ref p_rows) = some true)
    (r0_rows : PySem.W.recIn K p_rows "property" = some (.ref f_rows :: r_rows))
    (l_rows : K.lookup f_rows = some ⟨oc_rows, od_rows, .func (PySem.W.fnOf "rows" "Effect.rows" (defArgs (mE 4)) (defBody (mE 4)) (defScope (mE 4)) .none kv_rows dc_rows pm_rows an_rows cd_rows ct_rows), sl_rows⟩)
    (c_rows : PySem.W.codeIn K cd_rows "Effect.rows" = true)
    (k_rows : PySem.W.keepIn K (.ref f_rows) = true)
    (E_rd : PySem.W.readsIn K C (.type "type") = true)
    (E_ga : PySem.W.specialIn K (.ref C) "__getattribute__" = some (some (.builtin "type.__getattribute__")))
    (h_ident : PySem.W.findCls K (.ref C) (.type "type") "identity" = some (.get (.builtin "classmethod.__get__") (.ref p_ident) .none (.ref C)))
    (r0_ident : PySem.W.recIn K p_ident "classmethod" = some (.ref f_ident :: r_ident))
    (i_ident : PySem.W.fnIn K f_ident = true)
    (l_ident : K.lookup f_ident = some ⟨oc_ident, od_ident, .func (PySem.W.fnOf "identity" "Effect.identity" (defArgs (mE 1)) (defBody (mE 1)) (defScope (mE 1)) .none kv_ident dc_ident pm_ident an_ident cd_ident ct_ident), sl_ident⟩)
    (c_ident : PySem.W.codeIn K cd_ident "Effect.identity" = true)
    (k_ident : PySem.W.keepIn K (.ref f_ident) = true)
    (h_fail : PySem.W.findCls K (.ref C) (.type "type") "failing" = some (.get (.builtin "classmethod.__get__") (.ref p_fail) .none (.ref C)))
    (r0_fail : PySem.W.recIn K p_fail "classmethod" = some (.ref f_fail :: r_fail))
    (i_fail : PySem.W.fnIn K f_fail = true)
    (l_fail : K.lookup f_fail = some ⟨oc_fail, od_fail, .func (PySem.W.fnOf "failing" "Effect.failing" (defArgs (mE 2)) (defBody (mE 2)) (defScope (mE 2)) .none kv_fail dc_fail pm_fail an_fail cd_fail ct_fail), sl_fail⟩)
    (c_fail : PySem.W.codeIn K cd_fail "Effect.failing" = true)
    (k_fail : PySem.W.keepIn K (.ref f_fail) = true)
    (a_XI : PySem.W.nsIn K mainGlobals "InvalidEffect" = some (some (.ref C_XI)))
    (o_XI : K.lookup C_XI = some (excClassObj nm_XI q_XI C_XI N_XI bs_XI bm_XI true sn_XI sub_XI ab_XI col_XI dd_XI k0_XI k1_XI k2_XI k3_XI k5_XI "ValueError.__new__"))
    (v_XI : PySem.HandSPX.refsVE bm_XI = true)
    (sa_XI : PySem.W.findIn K (.ref C_XI) "__setattr__" = some (some (.builtin "object.__setattr__")))
    (ga_XI : PySem.W.findIn K (.ref C_XI) "__getattribute__" = some (some (.builtin "BaseException.__getattribute__")))
    (gg_XI : PySem.W.findIn K (.ref C_XI) "__getattr__" = some none)
    (ex_XI : PySem.W.subIn K (.ref C_XI) (.type "BaseException") = some true)
    (ty_XI : PySem.W.typeIn K (.ref C_XI) = some (.type "type"))
    (kC_XI : PySem.W.keepIn K (.ref C_XI) = true)
    (hd_XI : PySem.W.hasDictIn K C_XI = true)
    (ic_XI : PySem.W.isClsIn K C_XI = true)
    (ss_XI : PySem.W.subIn K (.ref C_XI) (.ref C_XI) = some true)
    (iC_XI : PySem.W.findIn K (.ref C_XI) "__init__" = some (some (.ref f_XI)))
    (tI_XI : PySem.W.typeIn K (.ref f_XI) = some (.type "function"))
    (l_XI : K.lookup f_XI = some ⟨oc_XI, od_XI, .func (PySem.W.fnOf "__init__" "InvalidEffect.__init__" (defArgs (inClass (top 8) 0)) (defBody (inClass (top 8) 0)) (defScope (inClass (top 8) 0)) .none kv_XI dc_XI pm_XI an_XI cd_XI ct_XI), sl_XI⟩)
    (c_XI : PySem.W.codeIn K cd_XI "InvalidEffect.__init__" = true)
    (k_XI : PySem.W.keepIn K (.ref f_XI) = true)
    (a_XM : PySem.W.nsIn K mainGlobals "CapacityMismatch" = some (some (.ref C_XM)))
    (o_XM : K.lookup C_XM = some (excClassObj nm_XM q_XM C_XM N_XM bs_XM bm_XM true sn_XM sub_XM ab_XM col_XM dd_XM k0_XM k1_XM k2_XM k3_XM k5_XM "ValueError.__new__"))
    (v_XM : PySem.HandSPX.refsVE bm_XM = true)
    (sa_XM : PySem.W.findIn K (.ref C_XM) "__setattr__" = some (some (.builtin "object.__setattr__")))
    (ga_XM : PySem.W.findIn K (.ref C_XM) "__getattribute__" = some (some (.builtin "BaseException.__getattribute__")))
    (gg_XM : PySem.W.findIn K (.ref C_XM) "__getattr__" = some none)
    (ex_XM : PySem.W.subIn K (.ref C_XM) (.type "BaseException") = some true)
    (ty_XM : PySem.W.typeIn K (.ref C_XM) = some (.type "type"))
    (kC_XM : PySem.W.keepIn K (.ref C_XM) = true)
    (hd_XM : PySem.W.hasDictIn K C_XM = true)
    (ic_XM : PySem.W.isClsIn K C_XM = true)
    (ss_XM : PySem.W.subIn K (.ref C_XM) (.ref C_XM) = some true)
    (iC_XM : PySem.W.findIn K (.ref C_XM) "__init__" = some (some (.ref f_XM)))
    (tI_XM : PySem.W.typeIn K (.ref f_XM) = some (.type "function"))
    (l_XM : K.lookup f_XM = some ⟨oc_XM, od_XM, .func (PySem.W.fnOf "__init__" "CapacityMismatch.__init__" (defArgs (inClass (top 9) 0)) (defBody (inClass (top 9) 0)) (defScope (inClass (top 9) 0)) .none kv_XM dc_XM pm_XM an_XM cd_XM ct_XM), sl_XM⟩)
    (c_XM : PySem.W.codeIn K cd_XM "CapacityMismatch.__init__" = true)
    (k_XM : PySem.W.keepIn K (.ref f_XM) = true)
    (a_XL : PySem.W.nsIn K mainGlobals "LimitExceeded" = some (some (.ref C_XL)))
    (o_XL : K.lookup C_XL = some (excClassObj nm_XL q_XL C_XL N_XL bs_XL OvX.ovTail true sn_XL sub_XL ab_XL col_XL dd_XL k0_XL k1_XL k2_XL k3_XL k5_XL "OverflowError.__new__"))
    (sa_XL : PySem.W.findIn K (.ref C_XL) "__setattr__" = some (some (.builtin "object.__setattr__")))
    (ga_XL : PySem.W.findIn K (.ref C_XL) "__getattribute__" = some (some (.builtin "BaseException.__getattribute__")))
    (gg_XL : PySem.W.findIn K (.ref C_XL) "__getattr__" = some none)
    (ex_XL : PySem.W.subIn K (.ref C_XL) (.type "BaseException") = some true)
    (ty_XL : PySem.W.typeIn K (.ref C_XL) = some (.type "type"))
    (kC_XL : PySem.W.keepIn K (.ref C_XL) = true)
    (hd_XL : PySem.W.hasDictIn K C_XL = true)
    (ic_XL : PySem.W.isClsIn K C_XL = true)
    (ss_XL : PySem.W.subIn K (.ref C_XL) (.ref C_XL) = some true)
    (iC_XL : PySem.W.findIn K (.ref C_XL) "__init__" = some (some (.ref f_XL)))
    (tI_XL : PySem.W.typeIn K (.ref f_XL) = some (.type "function"))
    (l_XL : K.lookup f_XL = some ⟨oc_XL, od_XL, .func (PySem.W.fnOf "__init__" "LimitExceeded.__init__" (defArgs (inClass (top 11) 0)) (defBody (inClass (top 11) 0)) (defScope (inClass (top 11) 0)) .none kv_XL dc_XL pm_XL an_XL cd_XL ct_XL), sl_XL⟩)
    (c_XL : PySem.W.codeIn K cd_XL "LimitExceeded.__init__" = true)
    (k_XL : PySem.W.keepIn K (.ref f_XL) = true)
    (np_XI : PySem.W.findIn K (.ref C_XI) "position" = some none)
    (n1_XM : PySem.W.findIn K (.ref C_XM) "first" = some none)
    (n2_XM : PySem.W.findIn K (.ref C_XM) "second" = some none)
    (n1_XL : PySem.W.findIn K (.ref C_XL) "size" = some none)
    (a_XN : PySem.W.nsIn K mainGlobals "InvalidInteger" = some (some (.ref C_XN)))
    (x_XN : PySem.W.excIn K C_XN [.type "ValueError", .type "Exception", .type "BaseException", .type "object"] "ValueError.__new__" = true)
    (k_XN : PySem.W.keepIn K (.ref C_XN) = true)
    (ex_XN : PySem.W.subIn K (.ref C_XN) (.type "BaseException") = some true)
    (ty_XN : PySem.W.typeIn K (.ref C_XN) = some (.type "type"))
    (ic_XN : PySem.W.isClsIn K C_XN = true)
    (ss_XN : PySem.W.subIn K (.ref C_XN) (.ref C_XN) = some true)
    (s1 : PySem.W.subIn K (.ref C_XM) (.ref C_XI) = some false)
    (s2 : PySem.W.subIn K (.ref C_XN) (.ref C_XI) = some false)
    (s3 : PySem.W.subIn K (.ref C_XN) (.ref C_XM) = some false) :
    ∃ fd : FuncData, (∀ (s : Shared) (v : Value), BindsTo s fd ⟨[v], []⟩ [("_law_script", v)]) ∧ ∀ base : Heap, K.In base → base.Ns mainGlobals mg → FnG l.prog w K mg base CX0 11 fa fd ["_law_script"] (spLaw K) := by
  have ef : f_law = fa := by
    have z := hfa.symm.trans (PySem.W.mg_of X G a_law)
    cases z
    rfl
  subst ef
  let d_isTxt : Df K mg "is_text_of" sIsTxt := ⟨f_isTxt, _, fun_mk (st := sIsTxt) l_isTxt c_isTxt k_isTxt, PySem.W.mg_of X G a_isTxt⟩
  let d_isCap : Df K mg "is_capacity" sIsCap := ⟨f_isCap, _, fun_mk (st := sIsCap) l_isCap c_isCap k_isCap, PySem.W.mg_of X G a_isCap⟩
  let d_chkCap : Df K mg "check_capacity" sChkCap := ⟨f_chkCap, _, fun_mk (st := sChkCap) l_chkCap c_chkCap k_chkCap, PySem.W.mg_of X G a_chkCap⟩
  let d_isMode : Df K mg "is_mode" sIsMode := ⟨f_isMode, _, fun_mk (st := sIsMode) l_isMode c_isMode k_isMode, PySem.W.mg_of X G a_isMode⟩
  let d_chkMode : Df K mg "check_mode" sChkMode := ⟨f_chkMode, _, fun_mk (st := sChkMode) l_chkMode c_chkMode k_chkMode, PySem.W.mg_of X G a_chkMode⟩
  let d_span : Df K mg "span_of" sSpan := ⟨f_span, _, fun_mk (st := sSpan) l_span c_span k_span, PySem.W.mg_of X G a_span⟩
  let d_parse : Df K mg "parse" sParse := ⟨f_parse, _, fun_mk (st := sParse) l_parse c_parse k_parse, PySem.W.mg_of X G a_parse⟩
  let d_items : Df K mg "items_of" sItems := ⟨f_items, _, fun_mk (st := sItems) l_items c_items k_items, PySem.W.mg_of X G a_items⟩
  let d_isRow : Df K mg "is_row" sIsRow := ⟨f_isRow, _, fun_mk (st := sIsRow) l_isRow c_isRow k_isRow, PySem.W.mg_of X G a_isRow⟩
  let d_jrow : Df K mg "joined_row" sJrow := ⟨f_jrow, _, fun_mk (st := sJrow) l_jrow c_jrow k_jrow, PySem.W.mg_of X G a_jrow⟩
  let d_jrows : Df K mg "joined_rows" sJrows := ⟨f_jrows, _, fun_mk (st := sJrows) l_jrows c_jrows k_jrows, PySem.W.mg_of X G a_jrows⟩
  let d_idRows : Df K mg "identity_rows" sIdRows := ⟨f_idRows, _, fun_mk (st := sIdRows) l_idRows c_idRows k_idRows, PySem.W.mg_of X G a_idRows⟩
  let d_same : Df K mg "check_same" sSame := ⟨f_same, _, fun_mk (st := sSame) l_same c_same k_same, PySem.W.mg_of X G a_same⟩
  let d_chkE : Df K mg "check_effects" sChkE := ⟨f_chkE, _, fun_mk (st := sChkE) l_chkE c_chkE k_chkE, PySem.W.mg_of X G a_chkE⟩
  let d_rowAfter : Df K mg "row_after" sRowAfter := ⟨f_rowAfter, _, fun_mk (st := sRowAfter) l_rowAfter c_rowAfter k_rowAfter, PySem.W.mg_of X G a_rowAfter⟩
  let d_rowsOf : Df K mg "rows_of" sRowsOf := ⟨f_rowsOf, _, fun_mk (st := sRowsOf) l_rowsOf c_rowsOf k_rowsOf, PySem.W.mg_of X G a_rowsOf⟩
  let d_effOf : Df K mg "effect_of" sEffOf := ⟨f_effOf, _, fun_mk (st := sEffOf) l_effOf c_effOf k_effOf, PySem.W.mg_of X G a_effOf⟩
  let d_draws : Df K mg "_law_draws" sDraws := ⟨f_draws, _, fun_mk (st := sDraws) l_draws c_draws k_draws, PySem.W.mg_of X G a_draws⟩
  let d_draw : Df K mg "_law_draw" sDraw := ⟨f_draw, _, fun_mk (st := sDraw) l_draw c_draw k_draw, PySem.W.mg_of X G a_draw⟩
  let d_lgen : Df K mg "_law_generated" sLGen := ⟨f_lgen, _, fun_mk (st := sLGen) l_lgen c_lgen k_lgen, PySem.W.mg_of X G a_lgen⟩
  let d_words : Df K mg "_law_words" sWords := ⟨f_words, _, fun_mk (st := sWords) l_words c_words k_words, PySem.W.mg_of X G a_words⟩
  let d_prod : Df K mg "_law_product" sProd := ⟨f_prod, _, fun_mk (st := sProd) l_prod c_prod k_prod, PySem.W.mg_of X G a_prod⟩
  let d_closed : Df K mg "_law_closed" sClosed := ⟨f_closed, _, fun_mk (st := sClosed) l_closed c_closed k_closed, PySem.W.mg_of X G a_closed⟩
  let d_err : Df K mg "_law_error" sErr := ⟨f_err, _, fun_mk (st := sErr) l_err c_err k_err, PySem.W.mg_of X G a_err⟩
  let d_fix : Df K mg "_law_fixed_right" sFix := ⟨f_fix, _, fun_mk (st := sFix) l_fix c_fix k_fix, PySem.W.mg_of X G a_fix⟩
  let d_law : Df K mg "law" sLaw := ⟨f_law, _, fun_mk (st := sLaw) l_law c_law k_law, PySem.W.mg_of X G a_law⟩
  let d_isInt : DfD K mg "is_integer" sIsInt [.int 0] := ⟨f_isInt, _, ⟨⟨_, _, _, _, _, _, _, _, _, _, rfl, l_isInt, c_isInt, .inr ⟨by simp, T_isInt, _, _, _, rfl, t_isInt, rfl, .cons ⟨_, rfl⟩ .nil⟩, .inl rfl⟩, k_isInt⟩, PySem.W.mg_of X G a_isInt⟩
  let d_chkInt : DfD K mg "check_integer" sChkInt [.int 0, .non] := ⟨f_chkInt, _, ⟨⟨_, _, _, _, _, _, _, _, _, _, rfl, l_chkInt, c_chkInt, .inr ⟨by simp, T_chkInt, _, _, _, rfl, t_chkInt, rfl, .cons ⟨_, rfl⟩ (.cons rfl .nil)⟩, .inl rfl⟩, k_chkInt⟩, PySem.W.mg_of X G a_chkInt⟩
  let d_isQ : DfD K mg "is_queue" sIsQ [.int 100] := ⟨f_isQ, _, ⟨⟨_, _, _, _, _, _, _, _, _, _, rfl, l_isQ, c_isQ, .inr ⟨by simp, T_isQ, _, _, _, rfl, t_isQ, rfl, .cons ⟨_, rfl⟩ .nil⟩, .inl rfl⟩, k_isQ⟩, PySem.W.mg_of X G a_isQ⟩
  let dg : GenD K mg := ⟨f_gen, ⟨_, _, _, _, _, _, _, _, _, _, l_gen, c_gen, d_gen⟩, k_gen, PySem.W.mg_of X G a_gen⟩
  have B : Nb mg := ⟨PySem.W.mg_none_of X G n_isinstance, PySem.W.mg_none_of X G n_int, PySem.W.mg_none_of X G n_bool, PySem.W.mg_none_of X G n_str, PySem.W.mg_none_of X G n_all, PySem.W.mg_none_of X G n_len, PySem.W.mg_none_of X G n_tuple, PySem.W.mg_none_of X G n_list, PySem.W.mg_none_of X G n_range, PySem.W.mg_none_of X G n_enumerate, PySem.W.mg_none_of X G n_set, PySem.W.mg_none_of X G n_sorted, PySem.W.mg_none_of X G n_repr, PySem.W.mg_none_of X G n_max, PySem.W.mg_none_of X G n_min⟩
  subst e_LET
  subst e_TAKE
  subst e_STEPS
  subst e_M0
  subst e_M1
  subst e_M2
  have N0 : Cn mg := ⟨⟨_, PySem.W.mg_of X G a_LET⟩, ⟨_, PySem.W.mg_of X G a_MOST⟩⟩
  have MD : Md K mg := ⟨⟨f_MODES, PySem.W.mg_of X G a_MODES, fun H => .inr ⟨_, _, _, l_MODES, rfl, rfl, by rw [sizeLine_eq]; show 3 ≤ 16777216; decide, .cons ⟨_, rfl⟩ (.cons ⟨_, rfl⟩ (.cons ⟨_, rfl⟩ .nil))⟩⟩⟩
  let mI : DfM K "__init__" "Effect.__init__" (mE 0) := ⟨f_init, _, fun_mk (st := (mE 0)) l_init c_init k_init⟩
  let mCap : DfM K "capacity" "Effect.capacity" (mE 3) := ⟨f_cap, _, fun_mk (st := (mE 3)) l_cap c_cap k_cap⟩
  let mRows : DfM K "rows" "Effect.rows" (mE 4) := ⟨f_rows, _, fun_mk (st := (mE 4)) l_rows c_rows k_rows⟩
  let T : EfC K mg := ⟨C, ⟨E_pg, E_hd, E_po, E_sa⟩, E_na, PySem.W.mg_of X G a_E, E_kp, mI, ⟨E_mk, h_init, i_init, E_kp⟩, mCap, p_cap, ⟨h_cap, g_cap, w_cap, ⟨_, r0_cap⟩⟩, mRows, p_rows, ⟨h_rows, g_rows, w_rows, ⟨_, r0_rows⟩⟩, E_cl, E_gc, E_tc, E_mo⟩
  let N : EfM K mg T := ⟨.type "type", ⟨E_rd, E_ga⟩, ⟨f_ident, _, fun_mk (st := (mE 1)) l_ident c_ident k_ident⟩, p_ident, ⟨h_ident, ⟨_, r0_ident⟩, i_ident⟩, ⟨f_fail, _, fun_mk (st := (mE 2)) l_fail c_fail k_fail⟩, p_fail, ⟨h_fail, ⟨_, r0_fail⟩, i_fail⟩, ⟨f_mul, _, fun_mk (st := (mE 13)) l_mul c_mul k_mul⟩, E_sf, h_mul, i_mul, ⟨f_eq, _, fun_mk (st := (mE 15)) l_eq c_eq k_eq⟩, ⟨E_ne, h_eq, i_eq, E_mo⟩, ⟨f_repr, _, fun_mk (st := (mE 16)) l_repr c_repr k_repr⟩, h_repr, i_repr⟩
  let XI : xInvE K mg := ⟨C_XI, PySem.W.mg_of X G a_XI, ⟨⟨_, _, _, _, _, _, _, _, _, _, _, _, _, _, _, o_XI, v_XI⟩, sa_XI, ex_XI, ty_XI, kC_XI⟩, ⟨f_XI, _, fun_mk (st := (inClass (top 8) 0)) l_XI c_XI k_XI⟩, iC_XI, tI_XI, ⟨ga_XI, gg_XI, ex_XI, hd_XI⟩⟩
  let XM : xCapM K mg := ⟨C_XM, PySem.W.mg_of X G a_XM, ⟨⟨_, _, _, _, _, _, _, _, _, _, _, _, _, _, _, o_XM, v_XM⟩, sa_XM, ex_XM, ty_XM, kC_XM⟩, ⟨f_XM, _, fun_mk (st := (inClass (top 9) 0)) l_XM c_XM k_XM⟩, iC_XM, tI_XM, ⟨ga_XM, gg_XM, ex_XM, hd_XM⟩⟩
  let XL : ExL K mg := ⟨C_XL, PySem.W.mg_of X G a_XL, ⟨⟨_, _, _, _, _, _, _, _, _, _, _, _, _, _, o_XL⟩, sa_XL, ex_XL, ty_XL, kC_XL⟩, ⟨f_XL, _, fun_mk (st := (inClass (top 11) 0)) l_XL c_XL k_XL⟩, iC_XL, tI_XL, ⟨ga_XL, gg_XL, ex_XL, hd_XL⟩, n1_XL⟩
  let XN : ExN K mg "InvalidInteger" := ⟨C_XN, PySem.W.mg_of X G a_XN, x_XN, k_XN, ex_XN, ty_XN⟩
  have EM : ExmF K XI.C XM.C XN.C := ⟨exm_any ex_XI ic_XI ty_XI ss_XI, exm_any ex_XI ic_XI ty_XI s1, exm_any ex_XM ic_XM ty_XM ss_XM, exm_any ex_XI ic_XI ty_XI s2, exm_any ex_XM ic_XM ty_XM s3, exm_any ex_XN ic_XN ty_XN ss_XN⟩
  have EL : PySem.W.exmOne K (.ref XL.C) (.ref XL.C) = some true := exm_any ex_XL ic_XL ty_XL ss_XL
  have kI : PySem.W.kitOne K (.type "int") (.ref T.C) = some false := kit_not E_ic E_ty E_in
  refine ⟨d_law.fd, fun s v => .of_eq rfl, fun base _ _ => ?_⟩
  have GI := ok_isInt (P := l.prog) (w := w) (base := base) d_isInt B
  have GT := ok_isTxt (P := l.prog) (w := w) (base := base) d_isTxt B
  have GCa := ok_isCap (P := l.prog) (w := w) (base := base) d_isCap d_isInt B N0
  have GCh := ok_chkCap d_chkCap d_isCap GCa
  have GQu := ok_isQ d_isQ d_chkCap d_isTxt GCh GT B N0
  have GRw := ok_isRow d_isRow d_isInt d_isQ GI GQu B
  have GJ := ok_jrow (P := l.prog) (w := w) (base := base) d_jrow B
  have GJs := ok_jrows d_jrows d_jrow GJ B
  have GId := ok_idRows (P := l.prog) (w := w) (base := base) d_idRows B
  have GIn := ok_init T d_chkCap d_isRow GCh GRw B
  have GIdn := ok_ident N.fId T GIn d_chkCap GCh d_idRows GId
  have GFa := ok_fail N.fFail T GIn d_chkCap GCh
  have GEq := ok_eq (P := l.prog) (w := w) (base := base) N.fEq T B
  have GRe := ok_repr (P := l.prog) (w := w) (base := base) N.fRepr T B
  have GSa := ok_same (P := l.prog) (w := w) (base := base) d_same T B XM n1_XM n2_XM
  have GMu := ok_mul N.fMul T B GIn d_same GSa d_jrows GJs
  have GSp := ok_span (P := l.prog) (w := w) (base := base) d_span B
  have GPa := ok_parse d_parse B d_span GSp (PySem.W.mg_of X G a_STEPS)
  have GIt := ok_items d_items B d_parse GPa
  have GRA := ok_rowAfter (P := l.prog) (w := w) (base := base) d_rowAfter B (PySem.W.mg_of X G a_TAKE)
  have GRO := ok_rowsOf d_rowsOf B d_idRows GId d_rowAfter GRA
  have GIM := ok_isMode (P := l.prog) (w := w) (base := base) d_isMode B MD
  have GCM := ok_chkMode d_chkMode d_isMode GIM
  have GEf := ok_effOf d_effOf T GIn d_items GIt d_chkCap GCh d_chkMode GCM d_rowsOf GRO
  have GCI := ok_chkInt d_chkInt d_isInt GI XN
  have GCE := ok_chkE d_chkE T B XI np_XI d_same GSa kI
  have GGe := gen_ok dg T B XL (PySem.W.mg_of X G a_MG) d_chkE GCE d_chkInt GCI d_idRows GId d_jrows GJs GIn
  have GLG := ok_lgen d_lgen B dg XL GGe EL
  have GEr := ok_err d_err B dg XI XM XN GGe EM np_XI n1_XM n2_XM
  have GDs := ok_draws (P := l.prog) (w := w) (base := base) d_draws B
  have GDr := ok_draw (P := l.prog) (w := w) (base := base) d_draw
  have GPr := ok_prod d_prod B T N GIdn GMu
  have GWo := ok_words (P := l.prog) (w := w) (base := base) d_words B
  have GCl := ok_closed d_closed B T N GIdn GMu GEq GRe d_prod GPr
  have GFi := ok_fix d_fix B T N GIdn GFa GMu GEq GIn d_err GEr dg GGe
  exact ok_law d_law B T N d_fix GFi d_draws GDs d_draw GDr d_effOf GEf d_lgen GLG d_closed GCl d_prod GPr d_words GWo GEq GRe
theorem walk {l : PySem.W.OpenLaw} {q : Program} {loose : List Str} {XP : (Str → Option Value) → Heap → Prop} {YP : World → Heap → Prop} {d : DefRec} {K : Params → PySem.W.Frag} (hn : l.most = some 63) (hdf : d.params.defaults = [])
    (hY : ∀ (w : World) (h : Heap), YP w h → (K w.params).In h)
    (F : ∀ (w : World) (mg : Str → Option Value) (fa : Addr) (h : Heap), (K w.params).In h → h.Ns mainGlobals mg → mg d.name = some (.ref fa) →
      ∃ fd : FuncData, (∀ (s : Shared) (u : Value), BindsTo s fd ⟨[u], []⟩ [("_law_script", u)]) ∧ ∀ base : Heap, (K w.params).In base → base.Ns mainGlobals mg → FnG l.prog w (K w.params) mg base CX0 11 fa fd ["_law_script"] (spLaw (K w.params))) :
    PySem.W.WalkO q loose XP YP l.row.toRowW d [] (fun f vs => PySem.call f vs) :=
  walk_ofG (n := 63) (k := 11) (x := "_law_script") (sp := spLaw) hn (by decide) hdf ⟨rfl, by decide, by decide⟩ hY F law_sp
end K30
open PySem PySem.W PyProof.Rows
set_option maxRecDepth 100000 in
set_option maxHeartbeats 0 in
theorem PySem.Challenge.cw_fullqueue_k30_whole_generated_effects_holds : PySem.Challenge.rw_fullqueue_k30_whole_generated_effects.Holds := by
  w_on; o_law; k_head; (case hw => w_witness2)
  k_fill
  refine K30.walk (l := PySem.Challenge.rw_fullqueue_k30_whole_generated_effects) rfl rfl (fun w h Y => PySem.W.kIn_of Y) ?F
  case F =>
    intro w mg fa h KX G hmg
    refine' K30.all_mk KX G hmg ?a_isTxt ?l_isTxt ?c_isTxt ?k_isTxt ?a_isCap ?l_isCap ?c_isCap ?k_isCap ?a_chkCap ?l_chkCap ?c_chkCap ?k_chkCap ?a_isMode ?l_isMode ?c_isMode ?k_isMode ?a_chkMode ?l_chkMode ?c_chkMode ?k_chkMode ?a_span ?l_span ?c_span ?k_span ?a_parse ?l_parse ?c_parse ?k_parse ?a_items ?l_items ?c_items ?k_items ?a_isRow ?l_isRow ?c_isRow ?k_isRow ?a_jrow ?l_jrow ?c_jrow ?k_jrow ?a_jrows ?l_jrows ?c_jrows ?k_jrows ?a_idRows ?l_idRows ?c_idRows ?k_idRows ?a_same ?l_same ?c_same ?k_same ?a_chkE ?l_chkE ?c_chkE ?k_chkE ?a_rowAfter ?l_rowAfter ?c_rowAfter ?k_rowAfter ?a_rowsOf ?l_rowsOf ?c_rowsOf ?k_rowsOf ?a_effOf ?l_effOf ?c_effOf ?k_effOf ?a_draws ?l_draws ?c_draws ?k_draws ?a_draw ?l_draw ?c_draw ?k_draw ?a_lgen ?l_lgen ?c_lgen ?k_lgen ?a_words ?l_words ?c_words ?k_words ?a_prod ?l_prod ?c_prod ?k_prod ?a_closed ?l_closed ?c_closed ?k_closed ?a_err ?l_err ?c_err ?k_err ?a_fix ?l_fix ?c_fix ?k_fix ?a_law ?l_law ?c_law ?k_law ?a_isInt ?l_isInt ?c_isInt ?k_isInt ?t_isInt ?a_chkInt ?l_chkInt ?c_chkInt ?k_chkInt ?t_chkInt ?a_isQ ?l_isQ ?c_isQ ?k_isQ ?t_isQ ?a_gen ?l_gen ?c_gen ?k_gen ?d_gen ?a_LET ?e_LET ?a_TAKE ?e_TAKE ?a_STEPS ?e_STEPS ?a_MOST ?a_MG ?a_MODES ?l_MODES ?e_M0 ?e_M1 ?e_M2 ?n_isinstance ?n_int ?n_bool ?n_str ?n_all ?n_len ?n_tuple ?n_list ?n_range ?n_enumerate ?n_set ?n_sorted ?n_repr ?n_max ?n_min ?a_E ?E_pg ?E_hd ?E_po ?E_kp ?E_mk ?E_ic ?E_ty ?E_in ?E_sf ?E_mo ?E_sa ?E_na ?E_cl ?E_ne ?E_gc ?E_tc ?h_init ?i_init ?l_init ?c_init ?k_init ?h_mul ?i_mul ?l_mul ?c_mul ?k_mul ?h_eq ?i_eq ?l_eq ?c_eq ?k_eq ?h_repr ?i_repr ?l_repr ?c_repr ?k_repr ?h_cap ?g_cap ?w_cap ?r0_cap ?l_cap ?c_cap ?k_cap ?h_rows ?g_rows ?w_rows ?r0_rows ?l_rows ?c_rows ?k_rows ?E_rd ?E_ga ?h_ident ?r0_ident ?i_ident ?l_ident ?c_ident ?k_ident ?h_fail ?r0_fail ?i_fail ?l_fail ?c_fail ?k_fail ?a_XI ?o_XI ?v_XI ?sa_XI ?ga_XI ?gg_XI ?ex_XI ?ty_XI ?kC_XI ?hd_XI ?ic_XI ?ss_XI ?iC_XI ?tI_XI ?l_XI ?c_XI ?k_XI ?a_XM ?o_XM ?v_XM ?sa_XM ?ga_XM ?gg_XM ?ex_XM ?ty_XM ?kC_XM ?hd_XM ?ic_XM ?ss_XM ?iC_XM ?tI_XM ?l_XM ?c_XM ?k_XM ?a_XL ?o_XL ?sa_XL ?ga_XL ?gg_XL ?ex_XL ?ty_XL ?kC_XL ?hd_XL ?ic_XL ?ss_XL ?iC_XL ?tI_XL ?l_XL ?c_XL ?k_XL ?np_XI ?n1_XM ?n2_XM ?n1_XL ?a_XN ?x_XN ?k_XN ?ex_XN ?ty_XN ?ic_XN ?ss_XN ?s1 ?s2 ?s3
    (case a_isTxt => k_is)
    (case l_isTxt => k_is)
    (case c_isTxt => k_is)
    (case k_isTxt => k_is)
    (case a_isCap => k_is)
    (case l_isCap => k_is)
    (case c_isCap => k_is)
    (case k_isCap => k_is)
    (case a_chkCap => k_is)
    (case l_chkCap => k_is)
    (case c_chkCap => k_is)
    (case k_chkCap => k_is)
    (case a_isMode => k_is)
    (case l_isMode => k_is)
    (case c_isMode => k_is)
    (case k_isMode => k_is)
    (case a_chkMode => k_is)
    (case l_chkMode => k_is)
    (case c_chkMode => k_is)
    (case k_chkMode => k_is)
    (case a_span => k_is)
    (case l_span => k_is)
    (case c_span => k_is)
    (case k_span => k_is)
    (case a_parse => k_is)
    (case l_parse => k_is)
    (case c_parse => k_is)
    (case k_parse => k_is)
    (case a_items => k_is)
    (case l_items => k_is)
    (case c_items => k_is)
    (case k_items => k_is)
    (case a_isRow => k_is)
    (case l_isRow => k_is)
    (case c_isRow => k_is)
    (case k_isRow => k_is)
    (case a_jrow => k_is)
    (case l_jrow => k_is)
    (case c_jrow => k_is)
    (case k_jrow => k_is)
    (case a_jrows => k_is)
    (case l_jrows => k_is)
    (case c_jrows => k_is)
    (case k_jrows => k_is)
    (case a_idRows => k_is)
    (case l_idRows => k_is)
    (case c_idRows => k_is)
    (case k_idRows => k_is)
    (case a_same => k_is)
    (case l_same => k_is)
    (case c_same => k_is)
    (case k_same => k_is)
    (case a_chkE => k_is)
    (case l_chkE => k_is)
    (case c_chkE => k_is)
    (case k_chkE => k_is)
    (case a_rowAfter => k_is)
    (case l_rowAfter => k_is)
    (case c_rowAfter => k_is)
    (case k_rowAfter => k_is)
    (case a_rowsOf => k_is)
    (case l_rowsOf => k_is)
    (case c_rowsOf => k_is)
    (case k_rowsOf => k_is)
    (case a_effOf => k_is)
    (case l_effOf => k_is)
    (case c_effOf => k_is)
    (case k_effOf => k_is)
    (case a_draws => k_is)
    (case l_draws => k_is)
    (case c_draws => k_is)
    (case k_draws => k_is)
    (case a_draw => k_is)
    (case l_draw => k_is)
    (case c_draw => k_is)
    (case k_draw => k_is)
    (case a_lgen => k_is)
    (case l_lgen => k_is)
    (case c_lgen => k_is)
    (case k_lgen => k_is)
    (case a_words => k_is)
    (case l_words => k_is)
    (case c_words => k_is)
    (case k_words => k_is)
    (case a_prod => k_is)
    (case l_prod => k_is)
    (case c_prod => k_is)
    (case k_prod => k_is)
    (case a_closed => k_is)
    (case l_closed => k_is)
    (case c_closed => k_is)
    (case k_closed => k_is)
    (case a_err => k_is)
    (case l_err => k_is)
    (case c_err => k_is)
    (case k_err => k_is)
    (case a_fix => k_is)
    (case l_fix => k_is)
    (case c_fix => k_is)
    (case k_fix => k_is)
    (case a_law => k_is)
    (case l_law => k_is)
    (case c_law => k_is)
    (case k_law => k_is)
    (case a_isInt => k_is)
    (case l_isInt => k_is)
    (case c_isInt => k_is)
    (case k_isInt => k_is)
    (case t_isInt => k_is)
    (case a_chkInt => k_is)
    (case l_chkInt => k_is)
    (case c_chkInt => k_is)
    (case k_chkInt => k_is)
    (case t_chkInt => k_is)
    (case a_isQ => k_is)
    (case l_isQ => k_is)
    (case c_isQ => k_is)
    (case k_isQ => k_is)
    (case t_isQ => k_is)
    (case a_gen => k_is)
    (case l_gen => k_is)
    (case c_gen => k_is)
    (case k_gen => k_is)
    (case d_gen => k_is)
    (case a_LET => k_is)
    (case e_LET => decide +kernel)
    (case a_TAKE => k_is)
    (case e_TAKE => decide +kernel)
    (case a_STEPS => k_is)
    (case e_STEPS => decide +kernel)
    (case a_MOST => k_is)
    (case a_MG => k_is)
    (case a_MODES => k_is)
    (case l_MODES => k_is)
    (case e_M0 => decide +kernel)
    (case e_M1 => decide +kernel)
    (case e_M2 => decide +kernel)
    (case n_isinstance => k_is)
    (case n_int => k_is)
    (case n_bool => k_is)
    (case n_str => k_is)
    (case n_all => k_is)
    (case n_len => k_is)
    (case n_tuple => k_is)
    (case n_list => k_is)
    (case n_range => k_is)
    (case n_enumerate => k_is)
    (case n_set => k_is)
    (case n_sorted => k_is)
    (case n_repr => k_is)
    (case n_max => k_is)
    (case n_min => k_is)
    (case a_E => k_is)
    (case E_pg => k_is)
    (case E_hd => k_is)
    (case E_po => k_is)
    (case E_kp => k_is)
    (case E_mk => k_is)
    (case E_ic => k_is)
    (case E_ty => k_is)
    (case E_in => k_is)
    (case E_sf => k_is)
    (case E_mo => k_is)
    (case E_sa => k_is)
    (case E_na => k_is)
    (case E_cl => k_is)
    (case E_ne => k_is)
    (case E_gc => k_is)
    (case E_tc => k_is)
    (case h_init => k_is)
    (case i_init => k_is)
    (case l_init => k_is)
    (case c_init => k_is)
    (case k_init => k_is)
    (case h_mul => k_is)
    (case i_mul => k_is)
    (case l_mul => k_is)
    (case c_mul => k_is)
    (case k_mul => k_is)
    (case h_eq => k_is)
    (case i_eq => k_is)
    (case l_eq => k_is)
    (case c_eq => k_is)
    (case k_eq => k_is)
    (case h_repr => k_is)
    (case i_repr => k_is)
    (case l_repr => k_is)
    (case c_repr => k_is)
    (case k_repr => k_is)
    (case h_cap => k_is)
    (case g_cap => k_is)
    (case w_cap => k_is)
    (case r0_cap => k_is)
    (case l_cap => k_is)
    (case c_cap => k_is)
    (case k_cap => k_is)
    (case h_rows => k_is)
    (case g_rows => k_is)
    (case w_rows => k_is)
    (case r0_rows => k_is)
    (case l_rows => k_is)
    (case c_rows => k_is)
    (case k_rows => k_is)
    (case E_rd => k_is)
    (case E_ga => k_is)
    (case h_ident => k_is)
    (case r0_ident => k_is)
    (case i_ident => k_is)
    (case l_ident => k_is)
    (case c_ident => k_is)
    (case k_ident => k_is)
    (case h_fail => k_is)
    (case r0_fail => k_is)
    (case i_fail => k_is)
    (case l_fail => k_is)
    (case c_fail => k_is)
    (case k_fail => k_is)
    (case a_XI => k_is)
    (case o_XI => k_is)
    (case v_XI => decide +kernel)
    (case sa_XI => k_is)
    (case ga_XI => k_is)
    (case gg_XI => k_is)
    (case ex_XI => k_is)
    (case ty_XI => k_is)
    (case kC_XI => k_is)
    (case hd_XI => k_is)
    (case ic_XI => k_is)
    (case ss_XI => k_is)
    (case iC_XI => k_is)
    (case tI_XI => k_is)
    (case l_XI => k_is)
    (case c_XI => k_is)
    (case k_XI => k_is)
    (case a_XM => k_is)
    (case o_XM => k_is)
    (case v_XM => decide +kernel)
    (case sa_XM => k_is)
    (case ga_XM => k_is)
    (case gg_XM => k_is)
    (case ex_XM => k_is)
    (case ty_XM => k_is)
    (case kC_XM => k_is)
    (case hd_XM => k_is)
    (case ic_XM => k_is)
    (case ss_XM => k_is)
    (case iC_XM => k_is)
    (case tI_XM => k_is)
    (case l_XM => k_is)
    (case c_XM => k_is)
    (case k_XM => k_is)
    (case a_XL => k_is)
    (case o_XL => k_is)
    (case sa_XL => k_is)
    (case ga_XL => k_is)
    (case gg_XL => k_is)
    (case ex_XL => k_is)
    (case ty_XL => k_is)
    (case kC_XL => k_is)
    (case hd_XL => k_is)
    (case ic_XL => k_is)
    (case ss_XL => k_is)
    (case iC_XL => k_is)
    (case tI_XL => k_is)
    (case l_XL => k_is)
    (case c_XL => k_is)
    (case k_XL => k_is)
    (case np_XI => k_is)
    (case n1_XM => k_is)
    (case n2_XM => k_is)
    (case n1_XL => k_is)
    (case a_XN => k_is)
    (case x_XN => first | k_exc | k_is)
    (case k_XN => k_is)
    (case ex_XN => k_is)
    (case ty_XN => k_is)
    (case ic_XN => k_is)
    (case ss_XN => k_is)
    (case s1 => k_is)
    (case s2 => k_is)
    (case s3 => k_is)
