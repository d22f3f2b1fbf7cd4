import PyProof.Rows.All
import Wide.All
import OpenK.AllK
import Wide.FinOn
import HandS.ForMost
import HandS.ForExc
import HandS.Walk
import HandS.Flow
import HandS.Style
import HandS.SortInts
import HandS.TupAny
import HandS.TupMul
import HandS.IsInst
import HandS.Conv
import HandS.Zip
import HandS.Star
import KE.KIndexOf
import HandS.More
import HandS.NoneIn
import KE.DataMinMax
import HandS.SetFor
import HandS.Strs
import KE.GoesEnum
import HandS.DictComp
import HandS.GenList
import HandS.GenCall
import PySem.Challenge.RW_climbsums_k09_whole_parted_at_highest_an
set_option Elab.async false
set_option linter.all false
set_option maxRecDepth 100000
set_option maxHeartbeats 4000000
/-! Tuples that are known to be plain: what makes one tells its object, and it has no dict. -/
namespace DL
open PySem PySem.Spec PyProof.Rows L2
/-- a tuple known to have no dict -/
def Tup (H : Hp) (a : Addr) (xs : List V) : Prop := ∃ o : Obj, H a = some (.frz o (.tup xs)) ∧ o.dict = none
theorem Tup.sq {K : PySem.W.Frag} {H : Hp} {a : Addr} {xs : List V} (h : Tup H a xs) : SqT K H a xs := let ⟨o, e, _⟩ := h; .inl (.inr ⟨o, e⟩)
theorem Tup.mono {H H' : Hp} {a : Addr} {xs : List V} (h : Tup H a xs) (s : Same H H') : Tup H' a xs := let ⟨o, e, d⟩ := h; ⟨o, s _ _ e, d⟩
theorem Tup.nn {H : Hp} {a : Addr} {xs : List V} (h : Tup H a xs) : H a ≠ none := fun z => by
  obtain ⟨o, e, _⟩ := h; rw [e] at z; cases z
/-- the new tuple's object -/
abbrev tupO (its : List Value) : Obj := { cls := .type "tuple", data := .seq its.toArray }
/-- what is wanted of a new tuple -/
def NewT (H : Hp) (xs : List V) (Q : VK) : Prop := ∀ (p : Addr) (o : Obj), H p = none → o.dict = none → Q (.ref p) (upd H p (.frz o (.tup xs)))
theorem laidT {X : Cx} {pins : List (Addr × Obj)} {σ : L2.St} {H : Hp} {s : Shared} {Q : VK} {xs : List V} {its : List Value} (I : Inv X pins σ H s) (r : Vals xs its) (hz : xs.length ≤ sizeLine) (q : NewT H xs Q) :
    EP X pins σ Q (.ref s.heap.objs.size) { s with heap := s.heap.push (tupO its) } := by
  have hn := I.hok.fresh (Nat.le_refl s.heap.objs.size)
  have at0 : (s.heap.push (tupO its)).get? s.heap.objs.size = some (tupO its) := Heap.get?_push_size _ rfl
  exact ⟨.ref s.heap.objs.size, _, I.laid (t' := s.toks) (o := .frz (tupO its) (.tup xs)) (fun b u e => Heap.get?_push_of_some _ e) (Nat.le_refl _) ⟨at0, hz, its, r, _, at0, rfl, _, rfl⟩, rfl, q _ _ hn rfl⟩
section
variable {X : Cx} {es : List Expr} {t : TA} {pos : Pos}
def tTupF (t : TA) : TE := fun σ H Q => t σ H fun xs H1 => xs.length ≤ sizeLine ∧ NewT H1 xs Q
theorem pe_tupF {k} (h : PA X es t) : PE X (.Tuple es k pos) (tTupF t) := by
  refine ⟨fun pins s σ H Q I hq => wpAny_Tuple_spliced (thn (h.run pos pins s σ H _ I hq) fun us s1 hh => ?_)⟩
  obtain ⟨xs, H1, I1, r, z, q⟩ := hh
  exact ⟨r.length ▸ z, laidT I1 r z q⟩
/-- + -/
def rCatF (K : PySem.W.Frag) : R2 := fun x y H Q => ∃ a b xs ys, x = .ref a ∧ y = .ref b ∧ SqT K H a xs ∧ SqT K H b ys ∧ xs.length + ys.length ≤ sizeLine ∧
  (xs = [] → Q (.ref b) H) ∧ (xs ≠ [] → ys = [] → Q (.ref a) H) ∧ (xs ≠ [] → ys ≠ [] → NewT H (xs ++ ys) Q)
theorem op_catF : OpR X (binaryOp .Add) (rCatF X.K) := by
  rintro pins s σ H x y v u Q I rx ry ⟨a, b, xs, ys, rfl, rfl, ha, hb, hz, q0, q1, q2⟩
  cases rx; cases ry
  obtain ⟨us, r1, p1, _⟩ := I.tuple ha
  obtain ⟨ws, r2, p2, _⟩ := I.tuple hb
  rcases Classical.em (xs = []) with hx | hx
  · subst hx
    cases r1
    exact cat_tup0 p1 p2 ⟨.ref b, H, I, rfl, q0 rfl⟩
  · have hu : us ≠ [] := fun z => hx (r1.nil_iff.mp z)
    refine HT.cat_tup p1 p2 hu (fun z => ⟨.ref a, H, I, rfl, q1 hx (r2.nil_iff.mp z)⟩) (fun z => ?_) (by rw [← r1.length, ← r2.length]; exact hz)
    exact laidT I (r1.append r2) (by rw [List.length_append]; exact hz) (q2 hx fun e => z (r2.nil_iff.mpr e))
/-- slices -/
def rSlF (K : PySem.W.Frag) : V → Option Int → Option Int → Hp → VK → Prop := fun x lo hi H Q => ∃ a xs, x = .ref a ∧ SqT K H a xs ∧
  (HT.sIx xs.length 0 lo = 0 ∧ HT.sIx xs.length xs.length hi = xs.length → Q (.ref a) H) ∧ (¬ (HT.sIx xs.length 0 lo = 0 ∧ HT.sIx xs.length xs.length hi = xs.length) → NewT H (cutV xs lo hi) Q)
theorem sl_tupF : SlR X (rSlF X.K) := by
  rintro pins s σ H x v vl vu lo hi sl Q I rx hs pl pu ⟨a, xs, rfl, hx, q1, q2⟩
  cases rx
  obtain ⟨us, r, ht, hz⟩ := I.tuple hx
  have hl : us.toArray.size = xs.length := by simpa using r.length.symm
  refine ⟨"tuple", _, PyProof.Rows.slot_tuple_getitem.lookup, ht.typeIs, ?_⟩
  rcases Classical.em (HT.sIx xs.length 0 lo = 0 ∧ HT.sIx xs.length xs.length hi = xs.length) with hw | hw
  · exact getItem_tuple_whole ht hs pl pu (hl ▸ hw) ⟨.ref a, H, I, rfl, q1 hw⟩
  · refine HT.getItem_tuple_cut ht hs pl pu (hl ▸ hw) ?_ (hl ▸ hz)
    rw [hl]
    exact laidT I ((r.drop _).take _) (Nat.le_trans (cutV_length xs lo hi) hz) (q2 hw)
/-- tuple(x) -/
theorem call_tupleF : CallR X (.type "tuple") (fun xs H Q => ∃ p ys, xs = [.ref p] ∧ ((SqL X.K H p ys ∧ NewT H ys Q) ∨ (SqT X.K H p ys ∧ Q (.ref p) H))) := by
  rintro pins s σ H xs us Q I r ⟨p, ys, rfl, h⟩
  obtain ⟨u, rfl, rx⟩ := vals1 r
  cases rx
  rcases h with ⟨hq, q⟩ | ⟨hq, q⟩
  · obtain ⟨its, r', pl, hz⟩ := I.list hq
    have hl := r'.length
    refine call_tuple_list pl.isList (fun h' kp => ?_) (by rw [List.size_toArray]; omega)
    have I1 : Inv X pins σ H { s with heap := h' } := I.kept (t' := s.toks) kp
    exact laidT I1 r' hz q
  · obtain ⟨its, r', pl, _⟩ := I.tuple hq
    exact call_tuple_same pl ⟨.ref p, H, I, rfl, q⟩
/-- t * k, 1 the tuple itself -/
theorem tuple_mul1 (l : Addr) (items : Array Value) (n : Nat) (dd : Option Addr) (sl : Array (Option Value)) (u : Tok) :
    Meets (Builtin.«tuple.__mul__» ⟨[.ref l, .int 1 u], []⟩) (fun _ R s => s.heap.get? l = some { cls := .type "tuple", dict := dd, data := .seq items n, slots := sl } ∧ R (.ok (.ret (Value.ref l))) s) :=
  .of_wp fun prog w A R s h => by
    obtain ⟨hp, g, d, tk, os⟩ := s
    obtain ⟨hl, h⟩ := h
    have f1 := AutoSeq1.idx_int
    have c1 : (items.isEmpty || (1 : Int) == 1) = true := by simp
    wp_walk using wpAny_loadPart' hl
    repeat (first
      | (refine wpAny_ite_false (decide_eq_false (by decide)) ?_; wp_walk using wpAny_loadPart' hl)
      | (refine wpAny_ite_true (decide_eq_true (by rw [c1])) ?_; wp_walk using wpAny_loadPart' hl))
    exact ⟨_, rfl, h⟩
def rRepF (K : PySem.W.Frag) : R2 := fun x y H Q => ∃ l k xs, x = .ref l ∧ y = .int k ∧ SqT K H l xs ∧ xs ≠ [] ∧ 1 ≤ k ∧ k ≤ 1000 ∧ xs.length ≤ 1000 ∧ (k = 1 → Q (.ref l) H) ∧ (2 ≤ k → NewT H (List.replicate k.toNat xs).flatten Q)
theorem op_repF : OpR X (binaryOp .Mult) (rRepF X.K) := by
  rintro pins s σ H x y v u Q I rx ry ⟨l, k, xs, rfl, rfl, hT, hne, h1, h2, hz, q1, q2⟩
  cases rx
  obtain ⟨t, rfl⟩ := ry
  obtain ⟨its, r, ⟨⟨cls, dd, data, sl⟩, ho, hc, n, hd⟩, hs⟩ := I.tuple hT
  simp only at hc hd
  subst hc hd
  have hl := r.length
  have hi : its.toArray.isEmpty = false := by
    cases its with
    | nil => cases r; exact absurd rfl hne
    | cons a b => rfl
  have hsz : its.toArray.size = xs.length := by simpa using hl.symm
  have many : k.toNat * xs.length ≤ 1000 * 1000 := Nat.mul_le_mul (by omega) hz
  have go : ∀ {Q' : Value → Shared → Prop}, wpAny (model X.prog X.w) X.A (call (.builtin "tuple.__mul__") [.ref l, .int k t]) Q' X.xe s → wpAny (model X.prog X.w) X.A (binaryOp .Mult (.ref l) (.int k t)) Q' X.xe s := fun h =>
    wpAny_binaryOp_repeat_ref (T := "tuple") (U := "int") (by decide) ⟨_, ho, rfl⟩ (fun s' => typeIs_int s' k t) noFill_tuple_mul F.fills_int_mul F.slot_int_rmul repeat_tuple F.slot_int_index.lookup
      (call_meets F.slot_int_rmul (typeIs_int s k t) F.entry_int_rmul (F.args_int_rmul_2 _ _) (int_rmul_tuple k t l its.toArray n dd sl) ⟨ho, rfl, ⟨_, ho, rfl⟩, h⟩)
  refine go ?_
  rcases Classical.em (k = 1) with e | e
  · subst e
    exact call_meets F.slot_tuple_mul ⟨_, ho, rfl⟩ F.entry_tuple_mul (F.args_tuple_mul_2 _ _) (tuple_mul1 l its.toArray n dd sl t) ⟨ho, .ref l, H, I, rfl, q1 rfl⟩
  · have hm : ((its.toArray.size : Nat) : Int) * k ≤ 1000000 := by
      rw [hsz]
      have : ((xs.length : Nat) : Int) * k ≤ 1000 * k := Int.mul_le_mul_of_nonneg_right (by omega) (by omega)
      omega
    refine call_meets F.slot_tuple_mul ⟨_, ho, rfl⟩ F.entry_tuple_mul (F.args_tuple_mul_2 _ _) (tuple_mulW l its.toArray n dd sl k t ?_ ?_ ?_ (by omega) ?_ ?_) ⟨ho, ?_⟩
    · rw [decide_eq_false (by omega), decide_eq_false (by omega)]; rfl
    · rw [hi]; exact beq_eq_false_iff_ne.mpr e
    · rw [hi, Bool.or_false]; exact decide_eq_false (by omega)
    · unfold Builtin.Tuple.tupleTooMany; rw [sizeLine_eq]; exact decide_eq_false (by omega)
    · rw [size_rep, List.size_toArray, lm_len_rep_flat, ← hl, sizeLine_eq]; omega
    · rw [size_rep]
      exact laidT I (r.rep k.toNat) (by rw [lm_len_rep_flat, sizeLine_eq]; omega) (q2 (by omega))
end
theorem Tup.at {X : Cx} {pins : List (Addr × Obj)} {σ : L2.St} {H : Hp} {s : Shared} {a : Addr} {xs : List V} (I : Inv X pins σ H s) (h : Tup H a xs) :
    ∃ (o : Obj) (its : List Value), s.heap.get? a = some o ∧ o.cls = .type "tuple" ∧ o.dict = none ∧ Vals xs its ∧ IsTup s.heap a its.toArray := by
  obtain ⟨o, e, d⟩ := h
  obtain ⟨g, z, its, r, ob, g2, c, n, dd⟩ := I.hok a _ e
  rw [g] at g2; cases g2
  exact ⟨o, its, g, c, d, r, o, g, c, n, dd⟩
section
variable {X : Cx} {o e : Expr} {to te : TE} {apos cpos : Pos}
/-- t.index(k) of ints, k among them -/
def tIdxT (to te : TE) : TE := fun σ H Q => to σ H fun x H1 => ∃ a xs, x = .ref a ∧ Tup H1 a xs ∧ te σ H1 fun y H2 => ∃ (k : Int) (ns : List Int), [y] = [V.int k] ∧ Tup H2 a (ns.map V.int) ∧ k ∈ ns ∧ Q (.int (ns.idxOf k : Nat)) H2
theorem pe_indexT (ho : PE X o to) (he : PE X e te)
    (hbase : attributeBase o "index" X.env (eval o X.env) = eval o X.env := by rfl)
    (hfew : ((backTo cpos (starEach [e] X.env)).all (fun x => !x.1) && (backToKw cpos (keywordEach [] X.env)).all (fun x => x.1.isSome)
      && decide ([e].length + ([] : List Keyword).length + (if ([] : List Keyword).isEmpty then 0 else 1) < 30)) = true := by rfl)
    (hline : (apos.endLine == cpos.line) = true := by rfl) (hs : starEach [e] X.env = (false, eval e X.env) :: starEach [] X.env := by rfl) (hplain : (backTo cpos (starEach [] X.env)).any (·.1) = false := by rfl) :
    PE X (.Call (.Attribute o "index" apos) [e] [] cpos) (tIdxT to te) := by
  refine ⟨fun pins s σ H Q I h => wpAny_Call_method_late hbase hfew hline rfl (thn (ho.run pins s σ H _ I h) fun v s1 hh => ?_)⟩
  obtain ⟨x, H1, I1, rx, a, xs, rfl, ht, q⟩ := hh
  cases rx
  obtain ⟨ob, _, g, c, d, _, _⟩ := ht.at I1
  refine ⟨"tuple", "tuple.index", PySem.F.plainAttrs_tuple, PySem.F.slot_tuple_index, PySem.F.type_tuple_index, ⟨ob, g, c⟩, fun b z => ⟨ob, by cases z; exact g, d⟩, ?_⟩
  have hA := (pa_cons he pa_nil hs).run cpos pins s1 σ H1 (fun vs H2 => ∃ (k : Int) (ns : List Int), vs = [V.int k] ∧ Tup H2 a (ns.map V.int) ∧ k ∈ ns ∧ Q (.int (ns.idxOf k : Nat)) H2) I1 ?_
  · rw [hs] at hA ⊢
    refine Calls.callWith_builtin (by show (false || (backTo cpos (starEach [] X.env)).any (·.1)) = false; rw [hplain]; rfl) (Calls.evalArgs_plain (thn hA fun us s2 h2 => ?_))
    obtain ⟨vs, H2, I2, r2, k, ns, rfl, t2, hk, q2⟩ := h2
    obtain ⟨u, rfl, t, rfl⟩ := vals1 r2
    obtain ⟨_, its, _, _, _, r, p⟩ := t2.at I2
    have hi : IntsAre its ns := L2.intsAre_of r
    exact SeqAt.tuple_index_ints p hi hk ⟨.int (ns.idxOf k : Nat), H2, I2.tok _, ⟨_, rfl⟩, q2⟩
  · exact q
end
/-! ### def f(a, *v) -/
theorem fn_starF {P : Program} {w : World} {K : PySem.W.Frag} {mg : Str → Option Value} {base : Heap} {CX : CXT} {k : Nat} {f : Addr} {name qual : Str} {params : Arguments} {body : List Stmt} {scope : Scope} {dV kV doc pm cdv ct oc : Value} {an od : Option Addr} {osl : Array (Option Value)} {N ps : List Str} {sp : Sp} {pv : Str}
    (lk : K.lookup f = some ⟨oc, od, .func (PySem.W.fnOf name qual params body scope dV kV doc pm an cdv ct), osl⟩) (hcd : PySem.W.codeIn K cdv qual = true) (S : FnScope N (ps ++ [pv]) scope) (hCX : StX.CXUp CX)
    (hb : ∀ us rest : List Value, us.length = ps.length → bindArgs (PySem.W.fnOf name qual params body scope dV kV doc pm an cdv ct) ⟨us ++ rest, []⟩ = (newTuple rest >>= fun t => pure (ps.zip us ++ [(pv, t)])))
    (hbody : ∀ (A : Around) (outer : List PySem.Env) (s : Shared) (H : Hp) (vs : List V) (Q : VK) (E : XK), Room k (A.deeper (envOfC qual scope s.heap.objs.size f cdv)) → sp vs H Q E →
      ∃ t, PSs (cxOf CX P w K mg base N qual scope f cdv A outer s H E) body t ∧ t { nx := fun _ H' => Q .non H', rt := Q } (start N vs) H) :
    FnR P w K mg base CX (k + 1) f (fun vs H Q E => ∃ ws rest, vs = ws ++ rest ∧ ws.length = ps.length ∧ rest.length ≤ sizeLine ∧ ∀ (p : Addr) (o : Obj), H p = Option.none → o.dict = Option.none → sp (ws ++ [V.ref p]) (upd H p (.frz o (.tup rest))) Q E) := by
  rintro A outer s H us vs Q E hr e0 r ⟨ws, rest, rfl, hl, hz, hq⟩
  obtain ⟨u1, u2, rfl, r1, r2⟩ := StX.vals_split r
  have hn : H s.heap.objs.size = Option.none := e0.hok.fresh (Nat.le_refl _)
  have hl1 : u1.length = ps.length := r1.length ▸ hl
  refine StX.run_bnd lk hcd S hr e0 (G := fun xs H2 => ∃ (p : Addr) (o : Obj), H p = Option.none ∧ o.dict = Option.none ∧ xs = ws ++ [V.ref p] ∧ H2 = upd H p (.frz o (.tup rest))) (fun A' Ex Q' h => ?_) fun s2 H2 xs hG hr' => ?_
  · rw [hb u1 u2 hl1]
    refine wpAny_bind (wpAny_newTuple (wpAny_pure ?_) (r2.length ▸ hz))
    have at0 : (s.heap.push (tupO u2)).get? s.heap.objs.size = some (tupO u2) := Heap.get?_push_size _ rfl
    have new : ObjOk P w (upd H s.heap.objs.size (.frz (tupO u2) (.tup rest))) (s.heap.push (tupO u2)) s.heap.objs.size (.frz (tupO u2) (.tup rest)) := ⟨at0, hz, u2, r2, _, at0, rfl, _, rfl⟩
    have un := StX.un_laid (fs := frs outer) (s := s) (o := tupO u2) (u := .frz (tupO u2) (.tup rest)) hn
    have z := h _ _ (ws ++ [V.ref s.heap.objs.size]) (u1 ++ [Value.ref s.heap.objs.size]) (StX.env0_laid e0 new) un rfl (fun e s' => hCX outer s H _ _ E e s' un (fun b o q => Heap.get?_push_of_some _ q) rfl) (r1.append (.cons rfl .nil))
      (by rw [List.length_append, List.length_append, hl]; rfl) ⟨_, tupO u2, hn, rfl, rfl, rfl⟩
    rw [List.zip_append hl1.symm] at z
    exact z
  · obtain ⟨p, o, hp, ho, rfl, rfl⟩ := hG
    exact hbody A outer s2 _ _ Q E hr' (hq p o hp ho)
end DL

/-! A layer of plain data over the hand layer: names hold data (shared, never changed) or lists of their own (changed in place, seen by nobody else). -/
namespace DL
open PySem PySem.Spec PyProof.Rows L2


mutual
/-- what stands for data: lists and tuples that are tracked -/
inductive Dq (H : Hp) : V → PyData → Prop
  | non : Dq H .non .none
  | bl (b : Bool) : Dq H (.bl b) (.bool b)
  | int (i : Int) : Dq H (.int i) (.int i)
  | str (x : Str) : Dq H (.str x) (.str x)
  | lst {a : Addr} {xs : List V} {ds : List PyData} : H a = some (.lst xs) → DqAll H xs ds → Dq H (.ref a) (.list ds)
  | tup {a : Addr} {xs : List V} {ds : List PyData} : Tup H a xs → DqAll H xs ds → Dq H (.ref a) (.tuple ds)
inductive DqAll (H : Hp) : List V → List PyData → Prop
  | nil : DqAll H [] []
  | cons {v : V} {vs : List V} {d : PyData} {ds : List PyData} : Dq H v d → DqAll H vs ds → DqAll H (v :: vs) (d :: ds)
end
mutual
theorem Dq.dp {K : PySem.W.Frag} {H : Hp} : ∀ {v : V} {d : PyData}, Dq H v d → Dp K H v d
  | _, _, .non => .non
  | _, _, .bl b => .bl b
  | _, _, .int i => .int i
  | _, _, .str x => .str x
  | _, _, .lst h a => .lst (.inl (.inl h)) (DqAll.dp a)
  | _, _, .tup h a => .tup h.sq (DqAll.dp a)
theorem DqAll.dp {K : PySem.W.Frag} {H : Hp} : ∀ {vs : List V} {ds : List PyData}, DqAll H vs ds → DpAll K H vs ds
  | _, _, .nil => .nil
  | _, _, .cons h t => .cons (Dq.dp h) (DqAll.dp t)
end
/-- a thing that one name alone holds -/
inductive Own where
  | lst (ds : List PyData)
  | dct (kvs : List (Int × Int))
/-- what a name holds -/
inductive Sl where
  | un
  | dat (d : PyData)
  | own (o : Own)
  | raw (v : V)
  | bag
/-- what an expression gives -/
inductive R where
  | dat (d : PyData)
  | tmp (ds : List PyData)
  | own (o : Own)
  | raw (v : V)
  | bag

abbrev DEnv := List Sl
abbrev SV := List (Option V)

def OwnRel (Hs : Hp) : Own → HO → Prop
  | .lst ds, .lst vs => DqAll Hs vs ds
  | .dct kvs, .dK kv => kv = kvs.map fun p => ((Sum.inl p.1 : Key), V.int p.2)
  | _, _ => False

/-- the place one stands at: the drawer of numbers, the heap at the def's entry, the shared part of it -/
structure Bs where
  B : Option Addr
  Hb : Hp
  Ha : Hp

def BagAt (H : Hp) (b : Addr) (n : Nat) : Prop := ∃ x y z : Int, H b = some (.lst [.int x, .int y, .int z]) ∧ 0 ≤ z ∧ z ≤ n

def OwnAt (c : Bs) (Hs H : Hp) (a : Addr) (o : Own) : Prop :=
  ∃ ho, H a = some ho ∧ OwnRel Hs o ho ∧ Hs a = none ∧ c.Hb a = none ∧ c.B ≠ some a

def SlotOk (c : Bs) (Hs H : Hp) (s : Option Sl) (v : Option (Option V)) : Prop :=
  match s with
  | some (.dat d) => ∃ x, v = some (some x) ∧ Dq Hs x d
  | some (.own o) => ∃ a, v = some (some (.ref a)) ∧ OwnAt c Hs H a o
  | some (.raw x) => v = some (some x)
  | some .bag => ∃ b, c.B = some b ∧ v = some (some (.ref b))
  | _ => True

def Owned (ρ : DEnv) (σ : SV) (a : Addr) : Prop := ∃ (i : Nat) (o : Own), ρ[i]? = some (.own o) ∧ σ[i]? = some (some (.ref a))

structure DRel (c : Bs) (ρ : DEnv) (n : Nat) (σ : SV) (Hs H : Hp) : Prop where
  sub : Same Hs H
  base : Same c.Ha Hs
  fix : ∀ p, c.Hb p ≠ none → Hs p = c.Ha p
  old : ∀ p o, c.B ≠ some p → c.Hb p = some o → H p = some o
  bag : ∀ b, c.B = some b → BagAt H b n ∧ Hs b = none
  len : ρ.length = σ.length
  slot : ∀ i : Nat, SlotOk c Hs H ρ[i]? σ[i]?
  dist : ∀ (i j : Nat) (o o' : Own) (a : Addr), ρ[i]? = some (.own o) → ρ[j]? = some (.own o') → σ[i]? = some (some (.ref a)) → σ[j]? = some (some (.ref a)) → i = j

def RRel (c : Bs) (ρ : DEnv) (σ : SV) (Hs H : Hp) (r : R) (v : V) : Prop :=
  match r with
  | .dat d => Dq Hs v d
  | .tmp ds => ∃ a vs, v = .ref a ∧ H a = some (.lst vs) ∧ DqAll Hs vs ds ∧ c.B ≠ some a
  | .own o => ∃ a, v = .ref a ∧ OwnAt c Hs H a o ∧ ¬ Owned ρ σ a
  | .raw x => v = x
  | .bag => ∃ b, c.B = some b ∧ v = .ref b

/-- enough for one who only looks -/
def RObs (c : Bs) (Hs H : Hp) (r : R) (v : V) : Prop :=
  match r with
  | .dat d => Dq Hs v d
  | .tmp ds => ∃ a vs, v = .ref a ∧ H a = some (.lst vs) ∧ DqAll Hs vs ds ∧ c.B ≠ some a
  | .own o => ∃ a ho, v = .ref a ∧ H a = some ho ∧ OwnRel Hs o ho ∧ c.B ≠ some a
  | .raw x => v = x
  | .bag => ∃ b, c.B = some b ∧ v = .ref b

/-- what an expression leaves as it was -/
structure Ext (c : Bs) (σ : SV) (ρ : DEnv) (Hs H : Hp) (ρ' : DEnv) (Hs' H' : Hp) : Prop where
  sh : Same Hs Hs'
  st : ∀ p o, c.B ≠ some p → H p = some o → H' p = some o
  ow : ∀ p, H p ≠ none → Hs p = none → ¬ Owned ρ σ p → Hs' p = none
  nw : ∀ p, Owned ρ' σ p → Owned ρ σ p

def Fresh (H : Hp) (r : R) (v : V) : Prop := match r with
  | .own _ => ∀ a, v = .ref a → H a = none
  | _ => True

/-! ### data under growing heaps -/
mutual
theorem dp_mono {H H' : Hp} (e : Same H H') : ∀ {v : V} {d : PyData}, Dq H v d → Dq H' v d
  | _, _, .non => .non
  | _, _, .bl b => .bl b
  | _, _, .int i => .int i
  | _, _, .str x => .str x
  | _, _, .lst h a => .lst (e _ _ h) (dpAll_mono e a)
  | _, _, .tup h a => .tup (h.mono e) (dpAll_mono e a)
theorem dpAll_mono {H H' : Hp} (e : Same H H') : ∀ {vs : List V} {ds : List PyData}, DqAll H vs ds → DqAll H' vs ds
  | _, _, .nil => .nil
  | _, _, .cons h t => .cons (dp_mono e h) (dpAll_mono e t)
end
theorem dpAll_len {H : Hp} : ∀ {vs : List V} {ds : List PyData}, DqAll H vs ds → vs.length = ds.length
  | _, _, .nil => rfl
  | _, _, .cons _ t => by simp [dpAll_len t]
theorem dpAll_get {H : Hp} : ∀ {vs : List V} {ds : List PyData} {i : Nat} {d : PyData}, DqAll H vs ds → ds[i]? = some d → ∃ v, vs[i]? = some v ∧ Dq H v d
  | _, _, _, _, .nil, h => by simp at h
  | _, _, 0, _, .cons (v := v) h _, e => by simp at e; subst e; exact ⟨v, rfl, h⟩
  | _, _, i + 1, _, .cons _ t, e => by
    obtain ⟨v, h1, h2⟩ := dpAll_get (i := i) t (by simpa using e)
    exact ⟨v, by simpa using h1, h2⟩
theorem dpAll_get' {H : Hp} : ∀ {vs : List V} {ds : List PyData} {i : Nat} {v : V}, DqAll H vs ds → vs[i]? = some v → ∃ d, ds[i]? = some d ∧ Dq H v d
  | _, _, _, _, .nil, h => by simp at h
  | _, _, 0, _, .cons (d := d) h _, e => by simp at e; subst e; exact ⟨d, rfl, h⟩
  | _, _, i + 1, _, .cons _ t, e => by
    obtain ⟨v, h1, h2⟩ := dpAll_get' (i := i) t (by simpa using e)
    exact ⟨v, by simpa using h1, h2⟩
theorem dpAll_app {H : Hp} : ∀ {vs ws : List V} {ds es : List PyData}, DqAll H vs ds → DqAll H ws es → DqAll H (vs ++ ws) (ds ++ es)
  | _, _, _, _, .nil, s => s
  | _, _, _, _, .cons h t, s => .cons h (dpAll_app t s)
theorem dpAll_take {H : Hp} : ∀ {vs : List V} {ds : List PyData} (n : Nat), DqAll H vs ds → DqAll H (vs.take n) (ds.take n)
  | _, _, 0, _ => .nil
  | _, _, _ + 1, .nil => .nil
  | _, _, n + 1, .cons h t => .cons h (dpAll_take n t)
theorem dpAll_drop {H : Hp} : ∀ {vs : List V} {ds : List PyData} (n : Nat), DqAll H vs ds → DqAll H (vs.drop n) (ds.drop n)
  | _, _, 0, h => h
  | _, _, _ + 1, .nil => .nil
  | _, _, n + 1, .cons _ t => dpAll_drop n t
theorem dpAll_rev {H : Hp} : ∀ {vs : List V} {ds : List PyData}, DqAll H vs ds → DqAll H vs.reverse ds.reverse
  | _, _, .nil => .nil
  | _, _, .cons h t => by
    rw [List.reverse_cons, List.reverse_cons]
    exact dpAll_app (dpAll_rev t) (.cons h .nil)
theorem dpAll_set {H : Hp} {v : V} {d : PyData} (r : Dq H v d) : ∀ {vs : List V} {ds : List PyData} (i : Nat), DqAll H vs ds → DqAll H (vs.set i v) (ds.set i d)
  | _, _, _, .nil => .nil
  | _, _, 0, .cons _ t => .cons r t
  | _, _, i + 1, .cons h t => .cons h (dpAll_set r i t)
theorem dpAll_rep {H : Hp} {vs : List V} {ds : List PyData} (h : DqAll H vs ds) : ∀ k : Nat, DqAll H (List.replicate k vs).flatten (List.replicate k ds).flatten
  | 0 => .nil
  | k + 1 => by
    rw [List.replicate_succ, List.replicate_succ, List.flatten_cons, List.flatten_cons]
    exact dpAll_app h (dpAll_rep h k)
theorem dpAll_dropLast {H : Hp} {vs : List V} {ds : List PyData} (h : DqAll H vs ds) : DqAll H vs.dropLast ds.dropLast := by
  rw [List.dropLast_eq_take, List.dropLast_eq_take, dpAll_len h]
  exact dpAll_take _ h
theorem dpAll_ints {H : Hp} : ∀ (ns : List Int), DqAll H (ns.map V.int) (ns.map PyData.int)
  | [] => .nil
  | n :: r => .cons (.int n) (dpAll_ints r)
theorem dpAll_ints_inv {H : Hp} : ∀ {ns : List Int} {vs : List V}, DqAll H vs (ns.map PyData.int) → vs = ns.map V.int
  | [], _, .nil => rfl
  | n :: r, _, .cons h t => by
    cases h
    rw [dpAll_ints_inv t]
    rfl
theorem dpAll_bools_inv {H : Hp} : ∀ {bs : List Bool} {vs : List V}, DqAll H vs (bs.map PyData.bool) → vs = bs.map V.bl
  | [], _, .nil => rfl
  | n :: r, _, .cons h t => by
    cases h
    rw [dpAll_bools_inv t]
    rfl

theorem same_upd {H : Hp} {p : Addr} {o : HO} (h : H p = none) : Same H (upd H p o) := fun b x e => by
  rw [upd_ne (ne_of_none e h)]
  exact e
theorem ne_none {H : Hp} {p : Addr} {o : HO} (h : H p = some o) : H p ≠ none := by rw [h]; exact fun e => nomatch e

theorem ownRel_mono {H H' : Hp} (e : Same H H') {o : Own} {ho : HO} (h : OwnRel H o ho) : OwnRel H' o ho := by
  cases o <;> cases ho <;> first | exact dpAll_mono e h | exact h

section
variable {c : Bs} {ρ ρ' ρ1 : DEnv} {n n' : Nat} {σ : SV} {Hs H Hs' H' Hs1 H1 : Hp} {r : R} {v : V}
theorem Ext.refl : Ext c σ ρ Hs H ρ Hs H := ⟨fun _ _ h => h, fun _ _ _ h => h, fun _ _ h _ => h, fun _ h => h⟩
theorem DRel.domH (D : DRel c ρ n σ Hs H) {p : Addr} (h : c.Hb p ≠ none) : H p ≠ none := by
  by_cases e : c.B = some p
  · obtain ⟨⟨x, y, z, q, _⟩, _⟩ := D.bag p e
    exact ne_none q
  · cases q : c.Hb p with
    | none => exact absurd q h
    | some o => exact ne_none (D.old p o e q)
theorem Ext.dom (E : Ext c σ ρ Hs H ρ' Hs' H') (D' : DRel c ρ' n' σ Hs' H') {p : Addr} (h : H p ≠ none) : H' p ≠ none := by
  by_cases e : c.B = some p
  · obtain ⟨⟨x, y, z, q, _⟩, _⟩ := D'.bag p e
    exact ne_none q
  · cases q : H p with
    | none => exact absurd q h
    | some o => exact ne_none (E.st p o e q)
theorem Ext.trans (E : Ext c σ ρ Hs H ρ1 Hs1 H1) (D1 : DRel c ρ1 n σ Hs1 H1) (E' : Ext c σ ρ1 Hs1 H1 ρ' Hs' H') : Ext c σ ρ Hs H ρ' Hs' H' :=
  ⟨E.sh.trans E'.sh, fun p o b h => E'.st p o b (E.st p o b h), fun p h0 h1 h2 => E'.ow p (E.dom D1 h0) (E.ow p h0 h1 h2) (fun q => h2 (E.nw p q)), fun p h => E.nw p (E'.nw p h)⟩
theorem RRel.obs (h : RRel c ρ σ Hs H r v) : RObs c Hs H r v := by
  cases r with
  | own o => obtain ⟨a, e, ⟨ho, h1, h2, h3, h4, h5⟩, _⟩ := h; exact ⟨a, ho, e, h1, h2, h5⟩
  | dat d => exact h
  | tmp ds => exact h
  | raw x => exact h
  | bag => exact h
theorem RObs.ext (h : RObs c Hs H r v) (sh : Same Hs Hs') (st : ∀ p o, c.B ≠ some p → H p = some o → H' p = some o) : RObs c Hs' H' r v := by
  cases r with
  | own o => obtain ⟨a, ho, e, h1, h2, h5⟩ := h; exact ⟨a, ho, e, st _ _ h5 h1, ownRel_mono sh h2, h5⟩
  | dat d => exact dp_mono sh h
  | tmp ds => obtain ⟨a, vs, e, h1, h2, h3⟩ := h; exact ⟨a, vs, e, st _ _ h3 h1, dpAll_mono sh h2, h3⟩
  | raw x => exact h
  | bag => exact h
theorem RRel.ext (h : RRel c ρ σ Hs H r v) (E : Ext c σ ρ Hs H ρ' Hs' H') : RRel c ρ' σ Hs' H' r v := by
  cases r with
  | own o =>
    obtain ⟨a, e, ⟨ho, h1, h2, h3, h4, h5⟩, h6⟩ := h
    exact ⟨a, e, ⟨ho, E.st _ _ h5 h1, ownRel_mono E.sh h2, E.ow _ (ne_none h1) h3 h6, h4, h5⟩, fun q => h6 (E.nw _ q)⟩
  | dat d => exact dp_mono E.sh h
  | tmp ds => obtain ⟨a, vs, e, h1, h2, h3⟩ := h; exact ⟨a, vs, e, E.st _ _ h3 h1, dpAll_mono E.sh h2, h3⟩
  | raw x => exact h
  | bag => exact h
/-- a new thing that is shared from the start -/
theorem DRel.newSh {p : Addr} {o : HO} (D : DRel c ρ n σ Hs H) (h : H p = none) : DRel c ρ n σ (upd Hs p o) (upd H p o) ∧ Ext c σ ρ Hs H ρ (upd Hs p o) (upd H p o) := by
  have hs : Hs p = none := D.sub.free h
  have s1 : Same Hs (upd Hs p o) := same_upd hs
  have s2 : Same H (upd H p o) := same_upd h
  have hb : c.Hb p = none := by
    cases q : c.Hb p with
    | none => rfl
    | some u => exact absurd h (D.domH (ne_none q))
  have nb : c.B ≠ some p := fun e => by
    obtain ⟨⟨x, y, z, q, _⟩, _⟩ := D.bag p e
    exact ne_none q h
  refine ⟨⟨fun b x e => ?_, D.base.trans s1, fun q e => ?_, fun q u b e => s2 _ _ (D.old q u b e), fun b e => ?_, D.len, fun i => ?_, D.dist⟩, ⟨s1, fun q u _ e => s2 _ _ e, fun q h0 h1 h2 => ?_, fun _ h => h⟩⟩
  · by_cases hp : b = p
    · subst hp; rw [upd_same] at e; cases e; exact upd_same
    · rw [upd_ne hp] at e; rw [upd_ne hp]; exact D.sub _ _ e
  · have : q ≠ p := fun z => e (z ▸ hb)
    rw [upd_ne this]; exact D.fix q e
  · obtain ⟨⟨x, y, z, q, q2⟩, q3⟩ := D.bag b e
    have : b ≠ p := fun z => nb (z ▸ e)
    exact ⟨⟨x, y, z, s2 _ _ q, q2⟩, by rw [upd_ne this]; exact q3⟩
  · have := D.slot i
    revert this
    unfold SlotOk
    split
    · rintro ⟨x, e, q⟩; exact ⟨x, e, dp_mono s1 q⟩
    · rintro ⟨a, e, ho, h1, h2, h3, h4, h5⟩
      have : a ≠ p := fun z => ne_none h1 (z ▸ h)
      exact ⟨a, e, ho, s2 _ _ h1, ownRel_mono s1 h2, by rw [upd_ne this]; exact h3, h4, h5⟩
    · exact fun q => q
    · exact fun q => q
    · exact fun q => q
  · have : q ≠ p := fun z => h0 (z ▸ h)
    rw [upd_ne this]; exact h1
/-- a new thing that nobody else knows -/
theorem DRel.newOwn {p : Addr} {o : HO} (D : DRel c ρ n σ Hs H) (h : H p = none) : DRel c ρ n σ Hs (upd H p o) ∧ Ext c σ ρ Hs H ρ Hs (upd H p o) ∧ Hs p = none ∧ c.Hb p = none ∧ c.B ≠ some p ∧ ¬ Owned ρ σ p := by
  have hs : Hs p = none := D.sub.free h
  have s2 : Same H (upd H p o) := same_upd h
  have hb : c.Hb p = none := by
    cases q : c.Hb p with
    | none => rfl
    | some u => exact absurd h (D.domH (ne_none q))
  have nb : c.B ≠ some p := fun e => by
    obtain ⟨⟨x, y, z, q, _⟩, _⟩ := D.bag p e
    exact ne_none q h
  refine ⟨⟨fun b x e => s2 _ _ (D.sub _ _ e), D.base, D.fix, fun q u b e => s2 _ _ (D.old q u b e), fun b e => ?_, D.len, fun i => ?_, D.dist⟩, ⟨fun _ _ h => h, fun q u _ e => s2 _ _ e, fun q h0 h1 h2 => h1, fun _ h => h⟩, hs, hb, nb, ?_⟩
  · obtain ⟨⟨x, y, z, q, q2⟩, q3⟩ := D.bag b e
    exact ⟨⟨x, y, z, s2 _ _ q, q2⟩, q3⟩
  · have := D.slot i
    revert this
    unfold SlotOk
    split
    · exact fun q => q
    · rintro ⟨a, e, ho, h1, h2⟩
      exact ⟨a, e, ho, s2 _ _ h1, h2⟩
    · exact fun q => q
    · exact fun q => q
    · exact fun q => q
  · rintro ⟨i, o', e1, e2⟩
    have := D.slot i
    rw [e1, e2] at this
    obtain ⟨a, e, ho, h1, _⟩ := this
    injection e with e; injection e with e; injection e with e; subst e
    exact ne_none h1 h
/-- a list of one's own becomes shared -/
theorem DRel.share {a : Addr} {o : Own} {ho : HO} (D : DRel c ρ n σ Hs H) (h1 : H a = some ho) (h2 : OwnRel Hs o ho) (h3 : Hs a = none) (h4 : c.Hb a = none) (h5 : c.B ≠ some a) (h6 : ¬ Owned ρ σ a) :
    DRel c ρ n σ (upd Hs a ho) H ∧ Same Hs (upd Hs a ho) := by
  have s1 : Same Hs (upd Hs a ho) := same_upd h3
  refine ⟨⟨fun b x e => ?_, D.base.trans s1, fun q e => ?_, D.old, fun b e => ?_, D.len, fun i => ?_, D.dist⟩, s1⟩
  · by_cases hp : b = a
    · subst hp; rw [upd_same] at e; cases e; exact h1
    · rw [upd_ne hp] at e; exact D.sub _ _ e
  · have : q ≠ a := fun z => e (z ▸ h4)
    rw [upd_ne this]; exact D.fix q e
  · have : b ≠ a := fun z => h5 (z ▸ e)
    exact ⟨(D.bag b e).1, by rw [upd_ne this]; exact (D.bag b e).2⟩
  · have q := D.slot i
    cases e : ρ[i]? with
    | none => trivial
    | some s =>
      rw [e] at q
      cases s with
      | un => trivial
      | dat d => obtain ⟨x, e, q⟩ := q; exact ⟨x, e, dp_mono s1 q⟩
      | own o' =>
        obtain ⟨b, e', ho', g1, g2, g3, g4, g5⟩ := q
        have : b ≠ a := fun z => h6 ⟨i, o', e, by rw [e', z]⟩
        exact ⟨b, e', ho', g1, ownRel_mono s1 g2, by rw [upd_ne this]; exact g3, g4, g5⟩
      | raw v => exact q
      | bag => exact q
theorem RRel.shared {ds : List PyData} (D : DRel c ρ n σ Hs H) (h : RRel c ρ σ Hs H (.own (.lst ds)) v) :
    ∃ Hs', DRel c ρ n σ Hs' H ∧ Same Hs Hs' ∧ Dq Hs' v (.list ds) ∧ (∀ p, Hs p = none → v ≠ .ref p → Hs' p = none) := by
  obtain ⟨a, rfl, ⟨ho, h1, h2, h3, h4, h5⟩, h6⟩ := h
  obtain ⟨D', s⟩ := D.share (o := .lst ds) h1 h2 h3 h4 h5 h6
  refine ⟨_, D', s, ?_, fun p hp hv => ?_⟩
  · cases ho with
    | lst vs => exact .lst upd_same (dpAll_mono s h2)
    | _ => exact h2.elim
  · have : p ≠ a := fun z => hv (by rw [z])
    rw [upd_ne this]; exact hp
end

/-! ### readings over data -/
abbrev TD := DEnv → Nat → (R → DEnv → Nat → Prop) → Prop
abbrev TTD := DEnv → Nat → (Bool → DEnv → Nat → Prop) → Prop
abbrev TAD := DEnv → Nat → (List R → DEnv → Nat → Prop) → Prop
structure EndsD where
  nx : DEnv → Nat → Prop
  rt : R → Nat → Prop
  bk : DEnv → Nat → Prop
  ct : DEnv → Nat → Prop
abbrev TSD := EndsD → DEnv → Nat → Prop

def MonoE (f : TD) : Prop := ∀ ρ n (Q Q' : R → DEnv → Nat → Prop), (∀ r ρ' n', Q r ρ' n' → Q' r ρ' n') → f ρ n Q → f ρ n Q'
def MonoT (f : TTD) : Prop := ∀ ρ n (Q Q' : Bool → DEnv → Nat → Prop), (∀ r ρ' n', Q r ρ' n' → Q' r ρ' n') → f ρ n Q → f ρ n Q'
def MonoA (f : TAD) : Prop := ∀ ρ n (Q Q' : List R → DEnv → Nat → Prop), (∀ r ρ' n', Q r ρ' n' → Q' r ρ' n') → f ρ n Q → f ρ n Q'
structure EndsD.Le (D D' : EndsD) : Prop where
  nx : ∀ ρ n, D.nx ρ n → D'.nx ρ n
  rt : ∀ r n, D.rt r n → D'.rt r n
  bk : ∀ ρ n, D.bk ρ n → D'.bk ρ n
  ct : ∀ ρ n, D.ct ρ n → D'.ct ρ n
def MonoS (t : TSD) : Prop := ∀ D D' ρ n, EndsD.Le D D' → t D ρ n → t D' ρ n

def teE (f : TD) : TE := fun σ H Q => ∃ c ρ n Hs, DRel c ρ n σ Hs H ∧
  f ρ n (fun r ρ' n' => ∀ v Hs' H', DRel c ρ' n' σ Hs' H' → RRel c ρ' σ Hs' H' r v → Ext c σ ρ Hs H ρ' Hs' H' → Fresh H r v → Q v H')
def teT (f : TTD) : TT := fun σ H Q => ∃ c ρ n Hs, DRel c ρ n σ Hs H ∧
  f ρ n (fun b ρ' n' => ∀ Hs' H', DRel c ρ' n' σ Hs' H' → Ext c σ ρ Hs H ρ' Hs' H' → Q b H')
/-- no two of them are one -/
def OwnDist (rs : List R) (vs : List V) : Prop := ∀ (i j : Nat) (o o' : Own) (a : Addr), rs[i]? = some (.own o) → rs[j]? = some (.own o') → vs[i]? = some (.ref a) → vs[j]? = some (.ref a) → i = j
def FreshA (H : Hp) (rs : List R) (vs : List V) : Prop := ∀ (i : Nat) (o : Own) (a : Addr), rs[i]? = some (.own o) → vs[i]? = some (.ref a) → H a = none
def teA (f : TAD) : TA := fun σ H Q => ∃ c ρ n Hs, DRel c ρ n σ Hs H ∧
  f ρ n (fun rs ρ' n' => ∀ vs Hs' H', DRel c ρ' n' σ Hs' H' → Paired (RRel c ρ' σ Hs' H') rs vs → Ext c σ ρ Hs H ρ' Hs' H' → OwnDist rs vs → FreshA H rs vs → Q vs H')
def EndsD.lift (c : Bs) (Hs : Hp) (D : Ends) : EndsD where
  nx := fun ρ' n' => ∀ σ' Hs' H', DRel c ρ' n' σ' Hs' H' → Same Hs Hs' → D.nx σ' H'
  rt := fun r n' => ∀ v Hs' H', DRel c [] n' [] Hs' H' → RRel c [] [] Hs' H' r v → D.rt v H'
  bk := fun ρ' n' => ∀ σ' Hs' H', DRel c ρ' n' σ' Hs' H' → Same Hs Hs' → D.bk σ' H'
  ct := fun ρ' n' => ∀ σ' Hs' H', DRel c ρ' n' σ' Hs' H' → Same Hs Hs' → D.ct σ' H'
theorem EndsD.lift_le {c : Bs} {Hs Hs1 : Hp} {D : Ends} (s : Same Hs Hs1) : EndsD.Le (EndsD.lift c Hs D) (EndsD.lift c Hs1 D) :=
  ⟨fun _ _ h σ' Hs' H' d e => h σ' Hs' H' d (s.trans e), fun _ _ h => h, fun _ _ h σ' Hs' H' d e => h σ' Hs' H' d (s.trans e), fun _ _ h σ' Hs' H' d e => h σ' Hs' H' d (s.trans e)⟩
def teS (t : TSD) : TS := fun D σ H => ∃ c ρ n Hs, DRel c ρ n σ Hs H ∧ t (EndsD.lift c Hs D) ρ n

structure FE (X : Cx) (e : Expr) (f : TD) : Prop where
  mono : MonoE f
  pe : PE X e (teE f)
structure FT (X : Cx) (e : Expr) (f : TTD) : Prop where
  mono : MonoT f
  pt : PT X e (teT f)
structure FA (X : Cx) (es : List Expr) (f : TAD) : Prop where
  mono : MonoA f
  pa : PA X es (teA f)
structure FS (X : Cx) (st : Stmt) (t : TSD) : Prop where
  mono : MonoS t
  ps : PS X st (teS t)
structure FSs (X : Cx) (st : List Stmt) (t : TSD) : Prop where
  mono : MonoS t
  pss : PSs X st (teS t)

theorem pe_weak {X : Cx} {e : Expr} {t t' : TE} (h : PE X e t) (w : ∀ σ H Q, t' σ H Q → t σ H Q) : PE X e t' := ⟨fun pins s σ H Q I q => h.run pins s σ H Q I (w _ _ _ q)⟩
theorem pt_weak {X : Cx} {e : Expr} {t t' : TT} (h : PT X e t) (w : ∀ σ H Q, t' σ H Q → t σ H Q) : PT X e t' := ⟨fun pins s σ H Q I q => h.run pins s σ H Q I (w _ _ _ q)⟩
theorem pw_weak {X : Cx} {e : Expr} {t t' : TT} (h : PW X e t) (w : ∀ σ H Q, t' σ H Q → t σ H Q) : PW X e t' := ⟨fun wh pins s σ H Q I q => h.run wh pins s σ H Q I (w _ _ _ q)⟩
theorem pa_weak {X : Cx} {e : List Expr} {t t' : TA} (h : PA X e t) (w : ∀ σ H Q, t' σ H Q → t σ H Q) : PA X e t' := ⟨fun pos pins s σ H Q I q => h.run pos pins s σ H Q I (w _ _ _ q)⟩
theorem ps_weak {X : Cx} {e : Stmt} {t t' : TS} (h : PS X e t) (w : ∀ D σ H, t' D σ H → t D σ H) : PS X e t' := ⟨fun pins s σ H D I q => h.run pins s σ H D I (w _ _ _ q)⟩
theorem pss_weak {X : Cx} {e : List Stmt} {t t' : TS} (h : PSs X e t) (w : ∀ D σ H, t' D σ H → t D σ H) : PSs X e t' := ⟨fun pins s σ H D I q => h.run pins s σ H D I (w _ _ _ q)⟩
end DL

namespace DL
open PySem PySem.Spec PyProof.Rows L2
/-! ### looking at what an expression gave -/
abbrev vI (i : Int) : R := .dat (.int i)
abbrev vB (b : Bool) : R := .dat (.bool b)
def asI (r : R) (k : Int → Prop) : Prop := match r with | .dat (.int i) => k i | _ => False
def asB (r : R) (k : Bool → Prop) : Prop := match r with | .dat (.bool b) => k b | _ => False
def asL (r : R) (k : List PyData → Prop) : Prop := match r with | .dat (.list ds) => k ds | .tmp ds => k ds | .own (.lst ds) => k ds | _ => False
def asT (r : R) (k : List PyData → Prop) : Prop := match r with | .dat (.tuple ds) => k ds | _ => False
def asSq (r : R) (k : List PyData → Prop) : Prop := match r with | .dat (.list ds) => k ds | .dat (.tuple ds) => k ds | .tmp ds => k ds | .own (.lst ds) => k ds | _ => False
def asD (r : R) (k : PyData → Prop) : Prop := match r with | .dat d => k d | .tmp ds => k (.list ds) | .own (.lst ds) => k (.list ds) | _ => False

theorem asI_inv {r : R} {k : Int → Prop} (h : asI r k) : ∃ i, r = .dat (.int i) ∧ k i := by
  unfold asI at h; split at h
  · exact ⟨_, rfl, h⟩
  · exact h.elim
theorem asB_inv {r : R} {k : Bool → Prop} (h : asB r k) : ∃ i, r = .dat (.bool i) ∧ k i := by
  unfold asB at h; split at h
  · exact ⟨_, rfl, h⟩
  · exact h.elim
theorem asT_inv {r : R} {k : List PyData → Prop} (h : asT r k) : ∃ i, r = .dat (.tuple i) ∧ k i := by
  unfold asT at h; split at h
  · exact ⟨_, rfl, h⟩
  · exact h.elim
theorem asI_mono {r : R} {k k' : Int → Prop} (m : ∀ i, k i → k' i) (h : asI r k) : asI r k' := by
  obtain ⟨i, rfl, q⟩ := asI_inv h; exact m _ q
theorem asB_mono {r : R} {k k' : Bool → Prop} (m : ∀ i, k i → k' i) (h : asB r k) : asB r k' := by
  obtain ⟨i, rfl, q⟩ := asB_inv h; exact m _ q
theorem asT_mono {r : R} {k k' : List PyData → Prop} (m : ∀ i, k i → k' i) (h : asT r k) : asT r k' := by
  obtain ⟨i, rfl, q⟩ := asT_inv h; exact m _ q
theorem asL_mono {r : R} {k k' : List PyData → Prop} (m : ∀ i, k i → k' i) (h : asL r k) : asL r k' := by
  unfold asL at h ⊢; split at h <;> first | exact m _ h | exact h.elim
theorem asSq_mono {r : R} {k k' : List PyData → Prop} (m : ∀ i, k i → k' i) (h : asSq r k) : asSq r k' := by
  unfold asSq at h ⊢; split at h <;> first | exact m _ h | exact h.elim
theorem asD_mono {r : R} {k k' : PyData → Prop} (m : ∀ i, k i → k' i) (h : asD r k) : asD r k' := by
  unfold asD at h ⊢; split at h <;> first | exact m _ h | exact h.elim
section
variable {c : Bs} {Hs H : Hp} {r : R} {x : V}
theorem asL_at {k : List PyData → Prop} (o : RObs c Hs H r x) (sub : Same Hs H) (h : asL r k) : ∃ a vs ds, x = .ref a ∧ H a = some (.lst vs) ∧ DqAll Hs vs ds ∧ k ds := by
  unfold asL at h; split at h
  · cases o with
    | lst e q => exact ⟨_, _, _, rfl, sub _ _ e, q, h⟩
  · obtain ⟨a, vs, e, h1, h2, _⟩ := o; exact ⟨a, vs, _, e, h1, h2, h⟩
  · obtain ⟨a, ho, e, h1, h2, _⟩ := o
    cases ho with
    | lst vs => exact ⟨a, vs, _, e, h1, h2, h⟩
    | _ => exact h2.elim
  · exact h.elim
theorem asT_at {k : List PyData → Prop} (o : RObs c Hs H r x) (sub : Same Hs H) (h : asT r k) : ∃ a vs ds, x = .ref a ∧ Tup H a vs ∧ DqAll Hs vs ds ∧ k ds := by
  obtain ⟨ds, rfl, q⟩ := asT_inv h
  cases o with
  | tup e q' => exact ⟨_, _, _, rfl, e.mono sub, q', q⟩
theorem asSq_at {k : List PyData → Prop} (o : RObs c Hs H r x) (sub : Same Hs H) (h : asSq r k) : ∃ a vs ds, x = .ref a ∧ (H a = some (.lst vs) ∨ Tup H a vs) ∧ DqAll Hs vs ds ∧ k ds := by
  unfold asSq at h; split at h
  · cases o with
    | lst e q => exact ⟨_, _, _, rfl, .inl (sub _ _ e), q, h⟩
  · cases o with
    | tup e q => exact ⟨_, _, _, rfl, .inr (e.mono sub), q, h⟩
  · obtain ⟨a, vs, e, h1, h2, _⟩ := o; exact ⟨a, vs, _, e, .inl h1, h2, h⟩
  · obtain ⟨a, ho, e, h1, h2, _⟩ := o
    cases ho with
    | lst vs => exact ⟨a, vs, _, e, .inl h1, h2, h⟩
    | _ => exact h2.elim
  · exact h.elim
theorem asD_at {k : PyData → Prop} (o : RObs c Hs H r x) (sub : Same Hs H) (h : asD r k) : ∃ d, Dq H x d ∧ k d := by
  unfold asD at h; split at h
  · exact ⟨_, dp_mono sub o, h⟩
  · obtain ⟨a, vs, rfl, h1, h2, _⟩ := o; exact ⟨_, .lst h1 (dpAll_mono sub h2), h⟩
  · obtain ⟨a, ho, rfl, h1, h2, _⟩ := o
    cases ho with
    | lst vs => exact ⟨_, .lst h1 (dpAll_mono sub h2), h⟩
    | _ => exact h2.elim
  · exact h.elim
end
abbrev F1 := R → (R → Prop) → Prop
abbrev F2 := R → R → (R → Prop) → Prop
abbrev FN := List R → (R → Prop) → Prop
def Mono1 (F : F1) : Prop := ∀ r Q Q', (∀ x, Q x → Q' x) → F r Q → F r Q'
def Mono2 (F : F2) : Prop := ∀ r r' Q Q', (∀ x, Q x → Q' x) → F r r' Q → F r r' Q'
def MonoN (F : FN) : Prop := ∀ rs Q Q', (∀ x, Q x → Q' x) → F rs Q → F rs Q'
/-- what stands behind a step on values -/
def After (c : Bs) (σ : SV) (ρ : DEnv) (n : Nat) (Hs H : Hp) (Qd : R → Prop) (Q : VK) : Prop :=
  ∀ r' v Hs' H', DRel c ρ n σ Hs' H' → RRel c ρ σ Hs' H' r' v → Ext c σ ρ Hs H ρ Hs' H' → Fresh H r' v → Qd r' → Q v H'
def Sim1 (rH : V → Hp → VK → Prop) (F : F1) : Prop := ∀ (c : Bs) (ρ : DEnv) (n : Nat) (σ : SV) (Hs H : Hp) (r : R) (x : V) (Qd : R → Prop) (Q : VK),
  DRel c ρ n σ Hs H → RObs c Hs H r x → F r Qd → After c σ ρ n Hs H Qd Q → rH x H Q
def Sim2 (rH : R2) (F : F2) : Prop := ∀ (c : Bs) (ρ : DEnv) (n : Nat) (σ : SV) (Hs H : Hp) (r r' : R) (x y : V) (Qd : R → Prop) (Q : VK),
  DRel c ρ n σ Hs H → RObs c Hs H r x → RObs c Hs H r' y → F r r' Qd → After c σ ρ n Hs H Qd Q → rH x y H Q
def SimN (rH : List V → Hp → VK → Prop) (F : FN) : Prop := ∀ (c : Bs) (ρ : DEnv) (n : Nat) (σ : SV) (Hs H : Hp) (rs : List R) (xs : List V) (Qd : R → Prop) (Q : VK),
  DRel c ρ n σ Hs H → Paired (RObs c Hs H) rs xs → F rs Qd → After c σ ρ n Hs H Qd Q → rH xs H Q
section
variable {c : Bs} {ρ ρ' : DEnv} {n n' : Nat} {σ : SV} {Hs H Hs' H' : Hp} {Qd : R → Prop} {Q : VK}
/-- ends of a step: data without a heap's change, a new list, a new shared thing -/
theorem After.dat {d : PyData} {v : V} (k : After c σ ρ n Hs H Qd Q) (D : DRel c ρ n σ Hs H) (h : Dq Hs v d) (q : Qd (.dat d)) : Q v H := k (.dat d) v Hs H D (show RRel c ρ σ Hs H (.dat d) v from h) Ext.refl trivial q
theorem After.ownL {vs : List V} {ds : List PyData} {p : Addr} (k : After c σ ρ n Hs H Qd Q) (D : DRel c ρ n σ Hs H) (hp : H p = none) (h : DqAll Hs vs ds) (q : Qd (.own (.lst ds))) : Q (.ref p) (upd H p (.lst vs)) := by
  obtain ⟨D', E, h1, h2, h3, h4⟩ := D.newOwn (o := .lst vs) hp
  refine k (.own (.lst ds)) _ _ _ D' ⟨p, rfl, ⟨_, upd_same, h, h1, h2, h3⟩, h4⟩ E (fun a e => ?_) q
  cases e; exact hp
theorem After.newT {vs : List V} {ds : List PyData} (k : After c σ ρ n Hs H Qd Q) (D : DRel c ρ n σ Hs H) (h : DqAll Hs vs ds) (q : Qd (.dat (.tuple ds))) : NewT H vs Q := fun p o hp ho => by
  obtain ⟨D', E⟩ := D.newSh (o := .frz o (.tup vs)) hp
  exact k (.dat (.tuple ds)) _ _ _ D' (show Dq _ _ _ from .tup ⟨o, upd_same, ho⟩ (dpAll_mono E.sh h)) E trivial q
theorem Fresh.back {r : R} {v : V} (h : Fresh H' r v) (m : ∀ p, H p ≠ none → H' p ≠ none) : Fresh H r v := by
  cases r with
  | own o =>
    intro a e
    cases q : H a with
    | none => rfl
    | some u => exact absurd (h a e) (m a (ne_none q))
  | _ => trivial
end
theorem small20 {n : Nat} (h : n ≤ 1000000) : n ≤ sizeLine := Nat.le_trans h (by decide)
theorem small20' {n : Nat} (h : n < 1000000) : n < sizeLine := Nat.lt_of_lt_of_le h (by decide)
/-! ### names, constants -/
def dVar (i : Nat) : TD := fun ρ n Q => match ρ[i]? with
  | some (.dat d) => Q (.dat d) ρ n
  | some (.own (.lst ds)) => Q (.tmp ds) ρ n
  | some (.raw v) => Q (.raw v) ρ n
  | some .bag => Q .bag ρ n
  | _ => False
/-- .. where the list is handed on: from now on it is shared -/
def dVarS (i : Nat) : TD := fun ρ n Q => match ρ[i]? with
  | some (.dat d) => Q (.dat d) ρ n
  | some (.own (.lst ds)) => Q (.dat (.list ds)) (ρ.set i (.dat (.list ds))) n
  | some (.raw v) => Q (.raw v) ρ n
  | some .bag => Q .bag ρ n
  | _ => False
def dC (r : R) : TD := fun ρ n Q => Q r ρ n
section
variable {c : Bs} {ρ ρ' : DEnv} {n n' : Nat} {σ : SV} {Hs H Hs' H' : Hp}
theorem getElem?_set_ne' {α : Type} {l : List α} {i j : Nat} {a : α} (h : i ≠ j) : (l.set i a)[j]? = l[j]? := by
  rw [List.getElem?_set]; rw [if_neg h]
/-- the slot i of one's own list becomes shared -/
theorem DRel.shareSlot {i : Nat} {ds : List PyData} (D : DRel c ρ n σ Hs H) (e : ρ[i]? = some (.own (.lst ds))) :
    ∃ a Hs', σ[i]? = some (some (.ref a)) ∧ DRel c (ρ.set i (.dat (.list ds))) n σ Hs' H ∧ Ext c σ ρ Hs H (ρ.set i (.dat (.list ds))) Hs' H ∧ Dq Hs' (.ref a) (.list ds) := by
  have s := D.slot i
  rw [e] at s
  obtain ⟨a, e2, ho, h1, h2, h3, h4, h5⟩ := s
  have li : i < ρ.length := by
    rcases Nat.lt_or_ge i ρ.length with q | q
    · exact q
    · rw [List.getElem?_eq_none q] at e; cases e
  cases ho with
  | lst vs =>
    have s1 : Same Hs (upd Hs a (.lst vs)) := same_upd h3
    have hd : Dq (upd Hs a (.lst vs)) (.ref a) (.list ds) := .lst upd_same (dpAll_mono s1 h2)
    refine ⟨a, upd Hs a (.lst vs), e2, ⟨fun b x z => ?_, D.base.trans s1, fun q z => ?_, D.old, fun b z => ?_, ?_, fun j => ?_, fun j k o o' b j1 k1 j2 k2 => ?_⟩, ⟨s1, fun _ _ _ h => h, fun p p1 p2 p3 => ?_, fun p hp => ?_⟩, hd⟩
    · by_cases hp : b = a
      · subst hp; rw [upd_same] at z; cases z; exact h1
      · rw [upd_ne hp] at z; exact D.sub _ _ z
    · have : q ≠ a := fun y => z (y ▸ h4)
      rw [upd_ne this]; exact D.fix q z
    · have : b ≠ a := fun y => h5 (y ▸ z)
      exact ⟨(D.bag b z).1, by rw [upd_ne this]; exact (D.bag b z).2⟩
    · rw [List.length_set]; exact D.len
    · by_cases hj : i = j
      · subst hj
        rw [List.getElem?_set_self li]
        exact ⟨_, e2, hd⟩
      · rw [getElem?_set_ne' hj]
        have q := D.slot j
        cases ej : ρ[j]? with
        | none => trivial
        | some s =>
          rw [ej] at q
          cases s with
          | un => trivial
          | dat d => obtain ⟨x, e', q⟩ := q; exact ⟨x, e', dp_mono s1 q⟩
          | own o' =>
            obtain ⟨b, e', ho', g1, g2, g3, g4, g5⟩ := q
            have : b ≠ a := fun z => hj (D.dist i j _ _ a e ej e2 (by rw [e', z]))
            exact ⟨b, e', ho', g1, ownRel_mono s1 g2, by rw [upd_ne this]; exact g3, g4, g5⟩
          | raw v => exact q
          | bag => exact q
    · by_cases hj : i = j
      · subst hj; rw [List.getElem?_set_self li] at j1; cases j1
      · by_cases hk : i = k
        · subst hk; rw [List.getElem?_set_self li] at k1; cases k1
        · rw [getElem?_set_ne' hj] at j1; rw [getElem?_set_ne' hk] at k1
          exact D.dist j k _ _ b j1 k1 j2 k2
    · have : p ≠ a := fun y => p3 ⟨i, _, e, by rw [y, e2]⟩
      rw [upd_ne this]; exact p2
    · obtain ⟨j, o, j1, j2⟩ := hp
      by_cases hj : i = j
      · subst hj; rw [List.getElem?_set_self li] at j1; cases j1
      · rw [getElem?_set_ne' hj] at j1; exact ⟨j, o, j1, j2⟩
  | _ => exact h2.elim
theorem DRel.notOwned_raw : True := trivial
end
section
variable {X : Cx} {pos : Pos} {a b : Expr} {f g : TD}
theorem fe_var {x : Str} (i : Nat) (hN : X.N[i]? = some x := by rfl) (hv : Vis X.env.scope x := by first | exact Or.inl rfl | exact Or.inr (Or.inl rfl) | exact Or.inr (Or.inr rfl)) (hd : (x == ("__debug__" : Str)) = false := by decide)
    (hcd : (x == ("__classdict__" : Str)) = false := by decide) : FE X (.Name x pos) (dVar i) := by
  refine ⟨fun ρ n Q Q' m h => ?_, pe_weak (pe_var hN hv hd hcd) fun σ H Q => ?_⟩
  · revert h; unfold dVar; split <;> first | exact m _ _ _ | exact id
  · rintro ⟨c, ρ, n, Hs, D, q⟩
    have s := D.slot i
    unfold dVar at q
    cases e : ρ[i]? with
    | none => rw [e] at q; exact q.elim
    | some sl =>
      rw [e] at q s
      cases sl with
      | un => exact q.elim
      | dat d => obtain ⟨x, e1, e2⟩ := s; exact ⟨x, e1, q _ _ _ D e2 Ext.refl trivial⟩
      | own o =>
        cases o with
        | dct kvs => exact q.elim
        | lst ds =>
          obtain ⟨a, e1, ho, h1, h2, h3, h4, h5⟩ := s
          cases ho with
          | lst vs => exact ⟨_, e1, q _ _ _ D ⟨a, vs, rfl, h1, h2, h5⟩ Ext.refl trivial⟩
          | _ => exact h2.elim
      | raw v => exact ⟨_, s, q _ _ _ D rfl Ext.refl trivial⟩
      | bag => obtain ⟨b, e1, e2⟩ := s; exact ⟨_, e2, q _ _ _ D ⟨b, e1, rfl⟩ Ext.refl trivial⟩
theorem fe_varS {x : Str} (i : Nat) (hN : X.N[i]? = some x := by rfl) (hv : Vis X.env.scope x := by first | exact Or.inl rfl | exact Or.inr (Or.inl rfl) | exact Or.inr (Or.inr rfl)) (hd : (x == ("__debug__" : Str)) = false := by decide)
    (hcd : (x == ("__classdict__" : Str)) = false := by decide) : FE X (.Name x pos) (dVarS i) := by
  refine ⟨fun ρ n Q Q' m h => ?_, pe_weak (pe_var hN hv hd hcd) fun σ H Q => ?_⟩
  · revert h; unfold dVarS; split <;> first | exact m _ _ _ | exact id
  · rintro ⟨c, ρ, n, Hs, D, q⟩
    have s := D.slot i
    unfold dVarS at q
    cases e : ρ[i]? with
    | none => rw [e] at q; exact q.elim
    | some sl =>
      rw [e] at q s
      cases sl with
      | un => exact q.elim
      | dat d => obtain ⟨x, e1, e2⟩ := s; exact ⟨x, e1, q _ _ _ D e2 Ext.refl trivial⟩
      | own o =>
        cases o with
        | dct kvs => exact q.elim
        | lst ds =>
          obtain ⟨a, Hs', e1, D', E, hd⟩ := D.shareSlot e
          exact ⟨_, e1, q _ _ _ D' hd E trivial⟩
      | raw v => exact ⟨_, s, q _ _ _ D rfl Ext.refl trivial⟩
      | bag => obtain ⟨b, e1, e2⟩ := s; exact ⟨_, e2, q _ _ _ D ⟨b, e1, rfl⟩ Ext.refl trivial⟩
theorem fe_c {e : Expr} {v : V} {r : R} (h : PE X e (tC v)) (hr : ∀ c ρ σ Hs H, RRel c ρ σ Hs H r v) (hf : ∀ H, Fresh H r v) : FE X e (dC r) :=
  ⟨fun ρ n Q Q' m h => m _ _ _ h, pe_weak h fun σ H Q ⟨c, ρ, n, Hs, D, q⟩ => q _ _ _ D (hr c ρ σ Hs H) Ext.refl (hf H)⟩
theorem fe_int {i j} : FE X (.Constant (.int i) j pos) (dC (.dat (.int i))) := fe_c pe_int (fun _ _ _ _ _ => .int _) fun _ => trivial
theorem fe_bl {i j} : FE X (.Constant (.bool i) j pos) (dC (.dat (.bool i))) := fe_c pe_bl (fun _ _ _ _ _ => .bl _) fun _ => trivial
theorem fe_non {j} : FE X (.Constant .none j pos) (dC (.dat .none)) := fe_c pe_non (fun _ _ _ _ _ => .non) fun _ => trivial
theorem fe_str {i j} : FE X (.Constant (.str i) j pos) (dC (.dat (.str i))) := fe_c pe_str (fun _ _ _ _ _ => .str _) fun _ => trivial
theorem fe_gI {x : Str} {i : Int} (hm : ∃ t, X.mg x = some (.int i t)) (hg : Gl X x := by rfl) (hd : (x == ("__debug__" : Str)) = false := by decide) : FE X (.Name x pos) (dC (.dat (.int i))) :=
  let ⟨t, h⟩ := hm
  fe_c (pe_glob (v := .int i) hg h ⟨t, rfl⟩ hd) (fun _ _ _ _ _ => .int _) fun _ => trivial
theorem fe_gR {x : Str} {a : Addr} (hm : X.mg x = some (.ref a)) (hg : Gl X x := by rfl) (hd : (x == ("__debug__" : Str)) = false := by decide) : FE X (.Name x pos) (dC (.raw (.ref a))) :=
  fe_c (pe_glob (v := .ref a) hg hm rfl hd) (fun _ _ _ _ _ => rfl) fun _ => trivial
theorem fe_ty {x : Str} {T : String} (hm : X.mg x = none) (hv : bootBuiltins x = some (.type T)) (hg : Gl X x := by rfl) (hn : x ≠ "__name__" := by decide) (hd : (x == ("__debug__" : Str)) = false := by decide) : FE X (.Name x pos) (dC (.raw (.ty T))) :=
  fe_c (pe_bltn (v := .ty T) hg hm hv rfl hn hd) (fun _ _ _ _ _ => rfl) fun _ => trivial
/-! ### two expressions, one expression -/
def dBin (F : F2) (f g : TD) : TD := fun ρ n Q => f ρ n fun r ρ1 n1 => g ρ1 n1 fun r' ρ2 n2 => F r r' fun r'' => Q r'' ρ2 n2
def dUn (F : F1) (f : TD) : TD := fun ρ n Q => f ρ n fun r ρ1 n1 => F r fun r' => Q r' ρ1 n1
theorem mono_bin {F : F2} (m : Mono2 F) (hf : MonoE f) (hg : MonoE g) : MonoE (dBin F f g) := fun ρ n Q Q' k h =>
  hf _ _ _ _ (fun r ρ1 n1 h => hg _ _ _ _ (fun r' ρ2 n2 h => m _ _ _ _ (fun x h => k _ _ _ h) h) h) h
theorem mono_un {F : F1} (m : Mono1 F) (hf : MonoE f) : MonoE (dUn F f) := fun ρ n Q Q' k h =>
  hf _ _ _ _ (fun r ρ1 n1 h => m _ _ _ (fun x h => k _ _ _ h) h) h
theorem bin_weak {F : F2} {rH : R2} (s : Sim2 rH F) (hf : MonoE f) (hg : MonoE g) : ∀ σ H Q, teE (dBin F f g) σ H Q → tOp rH (teE f) (teE g) σ H Q := by
  rintro σ H Q ⟨c, ρ, n, Hs, D, q⟩
  refine ⟨c, ρ, n, Hs, D, hf _ _ _ _ (fun r ρ1 n1 q1 v Hs1 H1 D1 R1 E1 F1 => ⟨c, ρ1, n1, Hs1, D1, hg _ _ _ _ (fun r' ρ2 n2 q2 u Hs2 H2 D2 R2 E2 F2 => ?_) q1⟩) q⟩
  refine s c ρ2 n2 σ Hs2 H2 r r' v u _ Q D2 (R1.obs.ext E2.sh E2.st) R2.obs q2 fun r'' w Hs3 H3 D3 R3 E3 F3 q3 => q3 w Hs3 H3 D3 R3 (E1.trans D1 (E2.trans D2 E3)) ?_
  exact F3.back fun p hp => E2.dom D2 (E1.dom D1 hp)
theorem un_weak {F : F1} {rH : V → Hp → VK → Prop} (s : Sim1 rH F) (hf : MonoE f) : ∀ σ H Q, teE (dUn F f) σ H Q → tUn rH (teE f) σ H Q := by
  rintro σ H Q ⟨c, ρ, n, Hs, D, q⟩
  refine ⟨c, ρ, n, Hs, D, hf _ _ _ _ (fun r ρ1 n1 q1 v Hs1 H1 D1 R1 E1 F1 => ?_) q⟩
  refine s c ρ1 n1 σ Hs1 H1 r v _ Q D1 R1.obs q1 fun r'' w Hs3 H3 D3 R3 E3 F3 q3 => q3 w Hs3 H3 D3 R3 (E1.trans D1 E3) ?_
  exact F3.back fun p hp => E1.dom D1 hp
theorem fe_op {op : Operator} {rH : R2} {F : F2} (ho : OpR X (binaryOp op) rH) (s : Sim2 rH F) (m : Mono2 F) (ha : FE X a f) (hb : FE X b g) : FE X (.BinOp a op b pos) (dBin F f g) :=
  ⟨mono_bin m ha.mono hb.mono, pe_weak (pe_op ho ha.pe hb.pe) (bin_weak s ha.mono hb.mono)⟩
theorem fe_un {op : UnaryOp} {rH : V → Hp → VK → Prop} {F : F1} (ho : UnR X (unaryOp op) rH) (s : Sim1 rH F) (m : Mono1 F) (ha : FE X a f) : FE X (.UnaryOp op a pos) (dUn F f) :=
  ⟨mono_un m ha.mono, pe_weak (pe_un ho ha.pe) (un_weak s ha.mono)⟩
theorem fe_cmpR {op : CmpOp} {rH : R2} {F : F2} (ho : OpR X (compareOp op) rH) (s : Sim2 rH F) (m : Mono2 F) (ha : FE X a f) (hb : FE X b g) (hm : behindInMarks op b = false) : FE X (.Compare a [op] [b] pos) (dBin F f g) :=
  ⟨mono_bin m ha.mono hb.mono, pe_weak (pe_cmpR ho ha.pe hb.pe hm) (bin_weak s ha.mono hb.mono)⟩
end
/-! ### +, -, *, //, % -/
def fAdd : F2 := fun r r' Q => match r, r' with
  | .dat (.int i), .dat (.int j) => Q (vI (i + j))
  | .dat (.tuple ds), .dat (.tuple es) => ds.length + es.length ≤ 1000000 ∧ Q (.dat (.tuple (ds ++ es)))
  | r, r' => asL r fun ds => asL r' fun es => ds.length + es.length ≤ 1000000 ∧ Q (.own (.lst (ds ++ es)))
def fI2 (C : Int → Int → Prop) (g : Int → Int → PyData) : F2 := fun r r' Q => asI r fun i => asI r' fun j => C i j ∧ Q (.dat (g i j))
def fI2' (g : Int → Int → PyData) : F2 := fun r r' Q => asI r fun i => asI r' fun j => Q (.dat (g i j))
theorem mono_I2 {C g} : Mono2 (fI2 C g) := fun r r' Q Q' m h => asI_mono (fun i h => asI_mono (fun j h => ⟨h.1, m _ h.2⟩) h) h
theorem mono_I2' {g} : Mono2 (fI2' g) := fun r r' Q Q' m h => asI_mono (fun i h => asI_mono (fun j h => m _ h) h) h
theorem mono_add : Mono2 fAdd := fun r r' Q Q' m h => by
  unfold fAdd at h ⊢
  split at h
  · exact m _ h
  · exact ⟨h.1, m _ h.2⟩
  · exact asL_mono (fun ds h => asL_mono (fun es h => ⟨h.1, m _ h.2⟩) h) h
/-- ints by their rule -/
theorem sim_I {C : Int → Int → Prop} {g : Int → Int → V} {g' : Int → Int → PyData} (hg : ∀ H i j, Dq H (g i j) (g' i j)) : Sim2 (rI C g) (fI2 C g') := by
  intro c ρ n σ Hs H r r' x y Qd Q D o o' h k
  obtain ⟨i, rfl, h1⟩ := asI_inv h
  obtain ⟨j, rfl, h2, h3⟩ := asI_inv h1
  cases o; cases o'
  exact ⟨i, j, rfl, rfl, h2, k.dat D (hg _ i j) h3⟩
theorem sim_I0 {g : Int → Int → V} {g' : Int → Int → PyData} (hg : ∀ H i j, Dq H (g i j) (g' i j)) : Sim2 (rI0 g) (fI2' g') := by
  intro c ρ n σ Hs H r r' x y Qd Q D o o' h k
  obtain ⟨i, rfl, h1⟩ := asI_inv h
  obtain ⟨j, rfl, h3⟩ := asI_inv h1
  cases o; cases o'
  exact ⟨i, j, rfl, rfl, k.dat D (hg _ i j) h3⟩
section
variable {X : Cx} {pos : Pos} {a b c' : Expr} {f g h' : TD}
def rAddAll (K : PySem.W.Frag) : R2 := fun x y H Q => (rI0 (fun i j => .int (i + j)) x y H Q ∨ rCatF K x y H Q) ∨ rCat x y H Q
theorem op_addAll : OpR X (binaryOp .Add) (rAddAll X.K) := OpR.or (OpR.or op_add op_catF) op_cat
theorem sim_add {K : PySem.W.Frag} : Sim2 (rAddAll K) fAdd := by
  intro c ρ n σ Hs H r r' x y Qd Q D o o' h k
  unfold fAdd at h
  split at h
  · cases o; cases o'
    exact .inl (.inl ⟨_, _, rfl, rfl, k.dat D (.int _) h⟩)
  · obtain ⟨h1, h2⟩ := h
    cases o with
    | tup e1 q1 =>
      cases o' with
      | tup e2 q2 =>
        rename_i ds es a xs b ys
        refine .inl (.inr ⟨a, b, xs, ys, rfl, rfl, (e1.mono D.sub).sq, (e2.mono D.sub).sq, ?_, fun z => ?_, fun z1 z2 => ?_, fun z1 z2 => ?_⟩)
        · rw [dpAll_len q1, dpAll_len q2]; exact small20 h1
        · subst z
          cases q1
          exact k.dat D (.tup e2 q2) h2
        · subst z2
          cases q2
          rw [List.append_nil] at h2
          exact k.dat D (.tup e1 q1) h2
        · exact k.newT D (dpAll_app q1 q2) h2
  · obtain ⟨l, vs, ds, rfl, e1, q1, h⟩ := asL_at o D.sub h
    obtain ⟨m, ws, es, rfl, e2, q2, h1, h2⟩ := asL_at o' D.sub h
    refine .inr ⟨l, m, vs, ws, rfl, rfl, e1, e2, ?_, fun p hp => k.ownL D hp (dpAll_app q1 q2) h2⟩
    rw [dpAll_len q1, dpAll_len q2]; exact small20 h1
theorem fe_add (ha : FE X a f) (hb : FE X b g) : FE X (.BinOp a .Add b pos) (dBin fAdd f g) := fe_op op_addAll sim_add mono_add ha hb
abbrev fSub : F2 := fI2' fun i j => .int (i - j)
theorem fe_sub (ha : FE X a f) (hb : FE X b g) : FE X (.BinOp a .Sub b pos) (dBin fSub f g) := fe_op op_sub (sim_I0 fun _ _ _ => .int _) mono_I2' ha hb
abbrev fDiv : F2 := fI2 CDiv fun i j => .int (i / j)
theorem fe_div (ha : FE X a f) (hb : FE X b g) : FE X (.BinOp a .FloorDiv b pos) (dBin fDiv f g) := fe_op op_fdiv (sim_I fun _ _ _ => .int _) mono_I2 ha hb
abbrev fMod : F2 := fI2 (fun _ j => 0 < j) fun i j => .int (i % j)
theorem fe_mod (ha : FE X a f) (hb : FE X b g) : FE X (.BinOp a .Mod b pos) (dBin fMod f g) := fe_op op_mod (sim_I fun _ _ _ => .int _) mono_I2 ha hb
abbrev fPow : F2 := fI2 CPow fun i j => .int (i ^ j.toNat)
theorem fe_pow (ha : FE X a f) (hb : FE X b g) : FE X (.BinOp a .Pow b pos) (dBin fPow f g) := fe_op op_pow (sim_I fun _ _ _ => .int _) mono_I2 ha hb
/-- * of ints, of a list or a tuple and an int -/
def fMul : F2 := fun r r' Q => asI r' fun j => match r with
  | .dat (.int i) => CMul i j ∧ Q (vI (i * j))
  | .dat (.tuple ds) => ds ≠ [] ∧ 1 ≤ j ∧ j ≤ 1000 ∧ ds.length ≤ 1000 ∧ Q (.dat (.tuple (List.replicate j.toNat ds).flatten))
  | r => asL r fun ds => 0 ≤ j ∧ j ≤ 1000 ∧ ds.length ≤ 1000 ∧ Q (.own (.lst (List.replicate j.toNat ds).flatten))
theorem mono_mul : Mono2 fMul := fun r r' Q Q' m h => asI_mono (fun j h => by
  revert h; split
  · exact fun h => ⟨h.1, m _ h.2⟩
  · exact fun h => ⟨h.1, h.2.1, h.2.2.1, h.2.2.2.1, m _ h.2.2.2.2⟩
  · exact fun h => asL_mono (fun ds h => ⟨h.1, h.2.1, h.2.2.1, m _ h.2.2.2⟩) h) h
def rMulAll (K : PySem.W.Frag) : R2 := fun x y H Q => (rI CMul (fun i j => .int (i * j)) x y H Q ∨ rRepF K x y H Q) ∨ rRep x y H Q
theorem op_mulAll : OpR X (binaryOp .Mult) (rMulAll X.K) := OpR.or (OpR.or op_mul op_repF) op_rep
theorem sim_mul {K : PySem.W.Frag} : Sim2 (rMulAll K) fMul := by
  intro c ρ n σ Hs H r r' x y Qd Q D o o' h k
  obtain ⟨j, rfl, h1⟩ := asI_inv h
  clear h
  revert h1
  cases o'
  split
  · intro h
    cases o
    exact .inl (.inl ⟨_, _, rfl, rfl, h.1, k.dat D (.int _) h.2⟩)
  · rintro ⟨h1, h2, h3, h4, h5⟩
    cases o with
    | tup e1 q1 =>
      refine .inl (.inr ⟨_, _, _, rfl, rfl, (e1.mono D.sub).sq, ?_, h2, h3, ?_, fun e => ?_, fun _ => k.newT D (dpAll_rep q1 _) h5⟩)
      · intro z; subst z; cases q1; exact h1 rfl
      · rw [dpAll_len q1]; exact h4
      · subst e
        have e1' : ∀ ds : List PyData, (List.replicate (1 : Int).toNat ds).flatten = ds := fun ds => by simp
        rw [e1'] at h5
        exact k.dat D (.tup e1 q1) h5
  · intro h
    obtain ⟨l, vs, ds, rfl, e1, q1, h1, h2, h3, h4⟩ := asL_at o D.sub h
    refine .inr ⟨l, _, vs, rfl, rfl, e1, by omega, by omega, ?_, fun p hp => k.ownL D hp (dpAll_rep q1 _) h4⟩
    rw [dpAll_len q1]
    have : ds.length * j.toNat ≤ 1000 * 1000 := Nat.mul_le_mul h3 (by omega)
    exact small20 this
theorem fe_mul (ha : FE X a f) (hb : FE X b g) : FE X (.BinOp a .Mult b pos) (dBin fMul f g) := fe_op op_mulAll sim_mul mono_mul ha hb
def fNeg : F1 := fun r Q => asI r fun i => Q (vI (-i))
theorem fe_neg (ha : FE X a f) : FE X (.UnaryOp .USub a pos) (dUn fNeg f) := fe_un un_neg
  (fun c ρ n σ Hs H r x Qd Q D o h k => by
    obtain ⟨i, rfl, h1⟩ := asI_inv h
    cases o
    exact ⟨i, rfl, k.dat D (.int _) h1⟩) (fun r Q Q' m h => asI_mono (fun i h => m _ h) h) ha
/-! ### comparisons -/
abbrev fLt : F2 := fI2' fun i j => .bool (decide (i < j))
abbrev fLe : F2 := fI2' fun i j => .bool (decide (i ≤ j))
abbrev fGt : F2 := fI2' fun i j => .bool (decide (j < i))
abbrev fGe : F2 := fI2' fun i j => .bool (decide (j ≤ i))
theorem fe_lt (ha : FE X a f) (hb : FE X b g) : FE X (.Compare a [.Lt] [b] pos) (dBin fLt f g) := fe_cmpR op_lt (sim_I0 fun _ _ _ => .bl _) mono_I2' ha hb (nomark _)
theorem fe_le (ha : FE X a f) (hb : FE X b g) : FE X (.Compare a [.LtE] [b] pos) (dBin fLe f g) := fe_cmpR op_le (sim_I0 fun _ _ _ => .bl _) mono_I2' ha hb (nomark _)
theorem fe_gt (ha : FE X a f) (hb : FE X b g) : FE X (.Compare a [.Gt] [b] pos) (dBin fGt f g) := fe_cmpR op_gt (sim_I0 fun _ _ _ => .bl _) mono_I2' ha hb (nomark _)
theorem fe_ge (ha : FE X a f) (hb : FE X b g) : FE X (.Compare a [.GtE] [b] pos) (dBin fGe f g) := fe_cmpR op_ge (sim_I0 fun _ _ _ => .bl _) mono_I2' ha hb (nomark _)
/-- two data whose == is equality -/
def EqOk (d e : PyData) : Prop := SeqAt.shaped d = true ∧ SeqAt.shaped e = true ∧ (PyData.eqv d e = true ↔ d = e)
def fEq : F2 := fun r r' Q => match r, r' with
  | .dat (.int i), .dat (.int j) => Q (vB (decide (i = j)))
  | r, r' => asD r fun d => asD r' fun e => EqOk d e ∧ (d = e → Q (vB true)) ∧ (¬ d = e → Q (vB false))
def fNe : F2 := fun r r' Q => match r, r' with
  | .dat (.int i), .dat (.int j) => Q (vB (!decide (i = j)))
  | r, r' => asD r fun d => asD r' fun e => EqOk d e ∧ (d = e → Q (vB false)) ∧ (¬ d = e → Q (vB true))
theorem mono_eq : Mono2 fEq := fun r r' Q Q' m h => by
  unfold fEq at h ⊢
  split at h
  · exact m _ h
  · exact asD_mono (fun d h => asD_mono (fun e h => ⟨h.1, fun z => m _ (h.2.1 z), fun z => m _ (h.2.2 z)⟩) h) h
theorem mono_ne : Mono2 fNe := fun r r' Q Q' m h => by
  unfold fNe at h ⊢
  split at h
  · exact m _ h
  · exact asD_mono (fun d h => asD_mono (fun e h => ⟨h.1, fun z => m _ (h.2.1 z), fun z => m _ (h.2.2 z)⟩) h) h
theorem sim_eq {K : PySem.W.Frag} : Sim2 (rEqD K) fEq := by
  intro c ρ n σ Hs H r r' x y Qd Q D o o' h k
  unfold fEq at h
  split at h
  · cases o; cases o'
    refine ⟨_, _, .int _, .int _, rfl, rfl, ?_⟩
    refine k.dat D (.bl _) ?_
    rename_i i j
    have : PyData.eqv (.int i) (.int j) = decide (i = j) := by
      rw [PyData.eqv]; by_cases e : i = j <;> simp [e]
    rw [this]; exact h
  · obtain ⟨d, q1, h⟩ := asD_at o D.sub h
    obtain ⟨e, q2, ⟨s1, s2, s3⟩, h1, h2⟩ := asD_at o' D.sub h
    refine ⟨d, e, q1.dp, q2.dp, s1, s2, ?_⟩
    by_cases z : d = e
    · rw [s3.mpr z]; exact k.dat D (.bl _) (h1 z)
    · have : PyData.eqv d e = false := by
        cases q : PyData.eqv d e with
        | false => rfl
        | true => exact absurd (s3.mp q) z
      rw [this]; exact k.dat D (.bl _) (h2 z)
theorem sim_ne {K : PySem.W.Frag} : Sim2 (rNeD K) fNe := by
  intro c ρ n σ Hs H r r' x y Qd Q D o o' h k
  unfold fNe at h
  split at h
  · cases o; cases o'
    refine ⟨_, _, .int _, .int _, rfl, rfl, ?_⟩
    refine k.dat D (.bl _) ?_
    rename_i i j
    have : PyData.eqv (.int i) (.int j) = decide (i = j) := by
      rw [PyData.eqv]; by_cases e : i = j <;> simp [e]
    rw [this]; exact h
  · obtain ⟨d, q1, h⟩ := asD_at o D.sub h
    obtain ⟨e, q2, ⟨s1, s2, s3⟩, h1, h2⟩ := asD_at o' D.sub h
    refine ⟨d, e, q1.dp, q2.dp, s1, s2, ?_⟩
    by_cases z : d = e
    · rw [s3.mpr z]; exact k.dat D (.bl _) (h1 z)
    · have : PyData.eqv d e = false := by
        cases q : PyData.eqv d e with
        | false => rfl
        | true => exact absurd (s3.mp q) z
      rw [this]; exact k.dat D (.bl _) (h2 z)
theorem fe_eq (hu : X.A.units + 64 < cLine) (ha : FE X a f) (hb : FE X b g) : FE X (.Compare a [.Eq] [b] pos) (dBin fEq f g) := fe_cmpR (op_eqD hu) sim_eq mono_eq ha hb (nomark _)
theorem fe_ne (hu : X.A.units + 64 < cLine) (ha : FE X a f) (hb : FE X b g) : FE X (.Compare a [.NotEq] [b] pos) (dBin fNe f g) := fe_cmpR (op_neD hu) sim_ne mono_ne ha hb (nomark _)
/-- is None -/
def isNon (r : R) : Bool := match r with | .dat .none => true | _ => false
def fIsN : F2 := fun r r' Q => r' = .dat .none ∧ Q (vB (isNon r))
def fNotN : F2 := fun r r' Q => r' = .dat .none ∧ Q (vB (!isNon r))
theorem isNon_of {c : Bs} {Hs H : Hp} {r : R} {x : V} (o : RObs c Hs H r x) (hr : ∀ v, r ≠ .raw v) : decide (x = V.non) = isNon r := by
  cases r with
  | dat d => cases o <;> first | rfl | exact decide_eq_false (fun z => nomatch z)
  | tmp ds => obtain ⟨a, vs, rfl, _⟩ := o; exact decide_eq_false (fun z => nomatch z)
  | own ds => obtain ⟨a, vs, rfl, _⟩ := o; exact decide_eq_false (fun z => nomatch z)
  | bag => obtain ⟨a, _, rfl⟩ := o; exact decide_eq_false (fun z => nomatch z)
  | raw v => exact absurd rfl (hr v)
def noRaw (r : R) : Prop := match r with | .raw _ => False | _ => True
def fIsN' : F2 := fun r r' Q => match r' with | .dat .none => (match r with | .raw _ => False | r => Q (vB (isNon r))) | _ => False
def fNotN' : F2 := fun r r' Q => match r' with | .dat .none => (match r with | .raw _ => False | r => Q (vB (!isNon r))) | _ => False
theorem sim_isN : Sim2 (fun x y H Q => y = .non ∧ Q (.bl (decide (x = .non))) H) fIsN' := fun c ρ n σ Hs H r r' x y Qd Q D o o' h k => by
  unfold fIsN' at h; split at h
  · split at h
    · exact h.elim
    · rename_i hr
      cases o'
      exact ⟨rfl, by rw [isNon_of o (fun v z => hr v z)]; exact k.dat D (.bl _) h⟩
  · exact h.elim
theorem mono_isN : Mono2 fIsN' := fun r r' Q Q' m h => by
  unfold fIsN' at h ⊢; split at h
  · split at h
    · exact h.elim
    · exact m _ h
  · exact h.elim
theorem sim_notN : Sim2 (fun x y H Q => y = .non ∧ Q (.bl (!decide (x = .non))) H) fNotN' := fun c ρ n σ Hs H r r' x y Qd Q D o o' h k => by
  unfold fNotN' at h; split at h
  · split at h
    · exact h.elim
    · rename_i hr
      cases o'
      exact ⟨rfl, by rw [isNon_of o (fun v z => hr v z)]; exact k.dat D (.bl _) h⟩
  · exact h.elim
theorem mono_notN : Mono2 fNotN' := fun r r' Q Q' m h => by
  unfold fNotN' at h ⊢; split at h
  · split at h
    · exact h.elim
    · exact m _ h
  · exact h.elim
/-- is True, is False, of bools -/
def fIsB : F2 := fun r r' Q => asB r fun b => asB r' fun b' => Q (vB (decide (b = b')))
def fNotB : F2 := fun r r' Q => asB r fun b => asB r' fun b' => Q (vB (!decide (b = b')))
theorem sim_isB : Sim2 rIsB fIsB := fun c ρ n σ Hs H r r' x y Qd Q D o o' h k => by
  obtain ⟨i, rfl, h1⟩ := asB_inv h
  obtain ⟨j, rfl, h2⟩ := asB_inv h1
  cases o; cases o'
  exact ⟨i, j, rfl, rfl, k.dat D (.bl _) h2⟩
theorem sim_notB : Sim2 rNotB fNotB := fun c ρ n σ Hs H r r' x y Qd Q D o o' h k => by
  obtain ⟨i, rfl, h1⟩ := asB_inv h
  obtain ⟨j, rfl, h2⟩ := asB_inv h1
  cases o; cases o'
  exact ⟨i, j, rfl, rfl, k.dat D (.bl _) h2⟩
theorem mono_isB : Mono2 fIsB := fun r r' Q Q' m h => asB_mono (fun _ h => asB_mono (fun _ h => m _ h) h) h
theorem mono_notB : Mono2 fNotB := fun r r' Q Q' m h => asB_mono (fun _ h => asB_mono (fun _ h => m _ h) h) h
theorem fe_isN (ha : FE X a f) (hb : FE X b g) : FE X (.Compare a [.Is] [b] pos) (dBin fIsN' f g) := fe_cmpR op_isN sim_isN mono_isN ha hb (nomark _)
theorem fe_notN (ha : FE X a f) (hb : FE X b g) : FE X (.Compare a [.IsNot] [b] pos) (dBin fNotN' f g) := fe_cmpR op_notN sim_notN mono_notN ha hb (nomark _)
theorem fe_isB (ha : FE X a f) (hb : FE X b g) : FE X (.Compare a [.Is] [b] pos) (dBin fIsB f g) := fe_cmpR op_isBl sim_isB mono_isB ha hb (nomark _)
theorem fe_notB (ha : FE X a f) (hb : FE X b g) : FE X (.Compare a [.IsNot] [b] pos) (dBin fNotB f g) := fe_cmpR op_notBl sim_notB mono_notB ha hb (nomark _)
end
end DL

namespace DL
open PySem PySem.Spec PyProof.Rows L2
/-! ### subscripts, slices -/
theorem dpAll_atI {H : Hp} {vs : List V} {ds : List PyData} {i : Int} {d : PyData} (h : DqAll H vs ds) (e : atI ds i = some d) : ∃ v, atI vs i = some v ∧ Dq H v d := by
  unfold atI at e ⊢
  rw [dpAll_len h]
  cases q : ixN ds.length i with
  | none => rw [q] at e; cases e
  | some j => rw [q] at e; exact dpAll_get h e
def fIx : F2 := fun r r' Q => asSq r fun ds => asI r' fun i => match atI ds i with
  | some d => Q (.dat d)
  | none => False
theorem mono_ix : Mono2 fIx := fun r r' Q Q' m h => asSq_mono (fun ds h => asI_mono (fun i h => by
  revert h; split
  · exact m _
  · exact id) h) h
theorem sim_ix {K : PySem.W.Frag} : Sim2 (rIx K) fIx := by
  intro c ρ n σ Hs H r r' x y Qd Q D o o' h k
  obtain ⟨a, vs, ds, rfl, hs, q1, h⟩ := asSq_at o D.sub h
  obtain ⟨i, rfl, h2⟩ := asI_inv h
  cases o'
  revert h2; split
  · rename_i d e
    intro h2
    obtain ⟨v, e1, e2⟩ := dpAll_atI q1 e
    rcases hs with hs | hs
    · exact .inl ⟨a, vs, _, v, rfl, rfl, SqL.of hs, e1, k.dat D e2 h2⟩
    · exact .inr (.inl ⟨a, vs, _, v, rfl, rfl, hs.sq, e1, k.dat D e2 h2⟩)
  · exact fun h => h.elim
/-- the part of a list between two places -/
def cutL {α : Type} (xs : List α) (lo hi : Option Int) : List α := (xs.drop (HT.sIx xs.length 0 lo)).take (HT.sIx xs.length xs.length hi - HT.sIx xs.length 0 lo)
theorem dpAll_cut {H : Hp} {vs : List V} {ds : List PyData} (h : DqAll H vs ds) (lo hi : Option Int) : DqAll H (cutV vs lo hi) (cutL ds lo hi) := by
  unfold cutV cutL
  rw [dpAll_len h]
  exact dpAll_take _ (dpAll_drop _ h)
theorem cut_whole {H : Hp} {vs : List V} {ds : List PyData} {i j : Option Int} (q1 : DqAll H vs ds) (z : HT.sIx vs.length 0 i = 0 ∧ HT.sIx vs.length vs.length j = vs.length) : cutL ds i j = ds := by
  unfold cutL
  rw [← dpAll_len q1, z.1, z.2, List.drop_zero, Nat.sub_zero, dpAll_len q1, List.take_length]
abbrev TOD := DEnv → Nat → (Option Int → DEnv → Nat → Prop) → Prop
def MonoO (f : TOD) : Prop := ∀ ρ n (Q Q' : Option Int → DEnv → Nat → Prop), (∀ r ρ' n', Q r ρ' n' → Q' r ρ' n') → f ρ n Q → f ρ n Q'
def teO (f : TOD) : TO := fun σ H Q => ∃ c ρ n Hs, DRel c ρ n σ Hs H ∧
  f ρ n (fun b ρ' n' => ∀ Hs' H', DRel c ρ' n' σ Hs' H' → Ext c σ ρ Hs H ρ' Hs' H' → Q b H')
structure FO (X : Cx) (e : Option Expr) (f : TOD) : Prop where
  mono : MonoO f
  po : PO X e (teO f)
def dNoPart : TOD := fun ρ n Q => Q none ρ n
def dPart (f : TD) : TOD := fun ρ n Q => f ρ n fun r ρ' n' => asI r fun i => Q (some i) ρ' n'
def fSl (r : R) (lo hi : Option Int) (Q : R → Prop) : Prop := match r with
  | .dat (.tuple ds) => Q (.dat (.tuple (cutL ds lo hi)))
  | r => asL r fun ds => Q (.own (.lst (cutL ds lo hi)))
def dSl (f : TD) (l u : TOD) : TD := fun ρ n Q => f ρ n fun r ρ1 n1 => l ρ1 n1 fun lo ρ2 n2 => u ρ2 n2 fun hi ρ3 n3 => fSl r lo hi fun r' => Q r' ρ3 n3
section
variable {X : Cx} {pos p2 : Pos} {a b c' : Expr} {f g h' : TD} {lo hi : Option Expr} {l u : TOD}
theorem po_weak {e : Option Expr} {t t' : TO} (h : PO X e t) (w : ∀ σ H Q, t' σ H Q → t σ H Q) : PO X e t' := ⟨fun pins s σ H Q I q => h.run pins s σ H Q I (w _ _ _ q)⟩
theorem fe_ix (ha : FE X a f) (hb : FE X b g) (hs : PlainIx b := by exact fun _ _ => rfl) : FE X (.Subscript a b pos) (dBin fIx f g) :=
  ⟨mono_bin mono_ix ha.mono hb.mono, pe_weak (pe_ix ix_seq ha.pe hb.pe hs) (bin_weak sim_ix ha.mono hb.mono)⟩
theorem fo_none : FO X none dNoPart := ⟨fun ρ n Q Q' m h => m _ _ _ h, po_weak po_none fun σ H Q ⟨c, ρ, n, Hs, D, q⟩ => q _ _ D Ext.refl⟩
theorem fo_some (h : FE X a f) : FO X (some a) (dPart f) := ⟨fun ρ n Q Q' m q => h.mono _ _ _ _ (fun r ρ' n' q => asI_mono (fun i q => m _ _ _ q) q) q, po_weak (po_some h.pe) fun σ H Q ⟨c, ρ, n, Hs, D, q⟩ =>
  ⟨c, ρ, n, Hs, D, h.mono _ _ _ _ (fun r ρ' n' q v Hs' H' D' R' E' F' => by
    obtain ⟨i, rfl, q⟩ := asI_inv q
    cases R'
    exact ⟨i, rfl, q _ _ D' E'⟩) q⟩⟩
theorem mono_fSl {r : R} {lo hi : Option Int} {Q Q' : R → Prop} (m : ∀ x, Q x → Q' x) (h : fSl r lo hi Q) : fSl r lo hi Q' := by
  unfold fSl at h ⊢
  split at h
  · exact m _ h
  · exact asL_mono (fun ds h => m _ h) h
theorem fe_slice (ha : FE X a f) (hl : FO X lo l) (hu : FO X hi u) : FE X (.Subscript a (.Slice lo hi none p2) pos) (dSl f l u) := by
  refine ⟨fun ρ n Q Q' m q => ha.mono _ _ _ _ (fun r ρ1 n1 q => hl.mono _ _ _ _ (fun i ρ2 n2 q => hu.mono _ _ _ _ (fun j ρ3 n3 q => mono_fSl (fun x h => m _ _ _ h) q) q) q) q, ?_⟩
  refine pe_weak (pe_slice (SlR.or sl_list sl_tupF) ha.pe hl.po hu.po) ?_
  rintro σ H Q ⟨c, ρ, n, Hs, D, q⟩
  refine ⟨c, ρ, n, Hs, D, ha.mono _ _ _ _ (fun r ρ1 n1 q1 v Hs1 H1 D1 R1 E1 F1 => ⟨c, ρ1, n1, Hs1, D1, hl.mono _ _ _ _ (fun i ρ2 n2 q2 Hs2 H2 D2 E2 => ⟨c, ρ2, n2, Hs2, D2, hu.mono _ _ _ _ (fun j ρ3 n3 q3 Hs3 H3 D3 E3 => ?_) q2⟩) q1⟩) q⟩
  have E := E1.trans D1 (E2.trans D2 E3)
  have o : RObs c Hs3 H3 r v := (R1.obs.ext E2.sh E2.st).ext E3.sh E3.st
  have dom : ∀ p, H p ≠ none → H3 p ≠ none := fun p hp => E3.dom D3 (E2.dom D2 (E1.dom D1 hp))
  have k : After c σ ρ3 n3 Hs3 H3 (fun r' => ∀ v Hs' H', DRel c ρ3 n3 σ Hs' H' → RRel c ρ3 σ Hs' H' r' v → Ext c σ ρ Hs H ρ3 Hs' H' → Fresh H r' v → Q v H') Q :=
    fun r' w Hs' H' D' R' E' F' q' => q' w Hs' H' D' R' (E.trans D3 E') (F'.back dom)
  unfold fSl at q3
  split at q3
  · cases o with
    | tup e1 q1 =>
      refine .inr ⟨_, _, rfl, (e1.mono D3.sub).sq, fun z => ?_, fun z => k.newT D3 (dpAll_cut q1 i j) q3⟩
      refine k.dat D3 ?_ q3
      rw [cut_whole q1 z]
      exact .tup e1 q1
  · obtain ⟨l, vs, ds, rfl, e1, q1, h⟩ := asL_at o D3.sub q3
    exact .inl ⟨l, vs, rfl, SqL.of e1, fun p hp => k.ownL D3 hp (dpAll_cut q1 i j) h⟩
/-- xs[::-1] -/
def fRev : F1 := fun r Q => asL r fun ds => Q (.own (.lst ds.reverse))
theorem fe_rev {k : Nat} {p1 p3 p4 : Pos} (ha : FE X a f) : FE X (.Subscript a (.Slice none none (some (.UnaryOp .USub (.Constant (.int 1) k p1) p3)) p4) pos) (dUn fRev f) := by
  have m : Mono1 fRev := fun r Q Q' m h => asL_mono (fun ds h => m _ h) h
  refine ⟨mono_un m ha.mono, pe_weak (pe_revL ha.pe) (un_weak (rH := fun x H Q => ∃ a xs, x = .ref a ∧ SqL X.K H a xs ∧ ∀ p, H p = none → Q (.ref p) (upd H p (.lst xs.reverse))) (fun c ρ n σ Hs H r x Qd Q D o h k => ?_) ha.mono)⟩
  obtain ⟨l, vs, ds, rfl, e1, q1, h⟩ := asL_at o D.sub h
  exact ⟨l, vs, rfl, SqL.of e1, fun p hp => k.ownL D hp (dpAll_rev q1) h⟩
end
/-! ### argument lists -/
def dNil : TAD := fun ρ n Q => Q [] ρ n
def dCons (f : TD) (t : TAD) : TAD := fun ρ n Q => f ρ n fun r ρ1 n1 => t ρ1 n1 fun rs ρ2 n2 => Q (r :: rs) ρ2 n2
/-- handed on: a new list becomes shared -/
def toN (r : R) (k : R → Prop) : Prop := match r with
  | .dat d => k (.dat d)
  | .own (.lst ds) => k (.dat (.list ds))
  | .raw v => k (.raw v)
  | .bag => k .bag
  | _ => False
def dConsN (f : TD) (t : TAD) : TAD := fun ρ n Q => f ρ n fun r ρ1 n1 => toN r fun r => t ρ1 n1 fun rs ρ2 n2 => Q (r :: rs) ρ2 n2
theorem toN_mono {r : R} {k k' : R → Prop} (m : ∀ x, k x → k' x) (h : toN r k) : toN r k' := by
  unfold toN at h ⊢; split at h <;> first | exact m _ h | exact h.elim
def noOwn (r : R) : Prop := match r with | .own _ => False | _ => True
section
variable {c : Bs} {ρ ρ' : DEnv} {n n' : Nat} {σ : SV} {Hs H Hs' H' : Hp}
theorem toN_at {r : R} {v : V} {k : R → Prop} (D : DRel c ρ n σ Hs H) (h : RRel c ρ σ Hs H r v) (q : toN r k) :
    ∃ r' Hs', DRel c ρ n σ Hs' H ∧ RRel c ρ σ Hs' H r' v ∧ noOwn r' ∧ k r' ∧ Same Hs Hs' ∧ ∀ p, Hs p = none → v ≠ .ref p → Hs' p = none := by
  unfold toN at q
  split at q
  · exact ⟨_, Hs, D, h, trivial, q, fun _ _ h => h, fun _ h _ => h⟩
  · obtain ⟨Hs', D', s, hd, z⟩ := h.shared D
    exact ⟨.dat (.list _), Hs', D', hd, trivial, q, s, z⟩
  · exact ⟨_, Hs, D, h, trivial, q, fun _ _ h => h, fun _ h _ => h⟩
  · exact ⟨_, Hs, D, h, trivial, q, fun _ _ h => h, fun _ h _ => h⟩
  · exact q.elim
/-- .. seen from where the expression began -/
theorem toN_ext {r : R} {v : V} {k : R → Prop} (E : Ext c σ ρ Hs H ρ' Hs' H') (D : DRel c ρ' n σ Hs' H') (h : RRel c ρ' σ Hs' H' r v) (fr : Fresh H r v) (q : toN r k) :
    ∃ r' Hs2, DRel c ρ' n σ Hs2 H' ∧ RRel c ρ' σ Hs2 H' r' v ∧ noOwn r' ∧ k r' ∧ Ext c σ ρ Hs H ρ' Hs2 H' := by
  cases r with
  | own o =>
    obtain ⟨r', Hs2, D2, R2, no, q2, s, z⟩ := toN_at D h q
    refine ⟨r', Hs2, D2, R2, no, q2, E.sh.trans s, E.st, fun p h0 h1 h2 => z p (E.ow p h0 h1 h2) fun e => ?_, E.nw⟩
    exact h0 (fr p e)
  | dat d => exact ⟨_, Hs', D, h, trivial, q, E⟩
  | raw d => exact ⟨_, Hs', D, h, trivial, q, E⟩
  | bag => exact ⟨_, Hs', D, h, trivial, q, E⟩
  | tmp d => exact q.elim
theorem Fresh.no {r : R} {v : V} (h : noOwn r) : Fresh H r v := by
  cases r <;> first | trivial | exact h.elim
theorem fromConsRel {r : R} {v : V} {rs : List R} {vs : List V} (h : RRel c ρ σ Hs H r v) (E : Ext c σ ρ Hs H ρ' Hs' H') (t : Paired (RRel c ρ' σ Hs' H') rs vs) : Paired (RRel c ρ' σ Hs' H') (r :: rs) (v :: vs) := .cons (h.ext E) t
theorem ownDist_cons {r : R} {v : V} {rs : List R} {vs : List V} (h : RRel c ρ σ Hs H r v) (d : OwnDist rs vs) (f : FreshA H rs vs) : OwnDist (r :: rs) (v :: vs) := by
  have hd : ∀ (o : Own) (a : Addr), r = .own o → v = .ref a → H a ≠ none := by
    intro o a e1 e2
    subst e1
    obtain ⟨b, e, ⟨ho, q, _⟩, _⟩ := h
    rw [e2] at e; cases e
    exact ne_none q
  intro i j o o' a h1 h2 h3 h4
  cases i with
  | zero =>
    cases j with
    | zero => rfl
    | succ j =>
      simp at h1 h2 h3 h4
      exact absurd (f j o' a h2 h4) (hd o a h1 h3)
  | succ i =>
    cases j with
    | zero =>
      simp at h1 h2 h3 h4
      exact absurd (f i o a h1 h3) (hd o' a h2 h4)
    | succ j =>
      simp at h1 h2 h3 h4
      rw [d i j o o' a h1 h2 h3 h4]
theorem freshA_cons {H0 : Hp} {r : R} {v : V} {rs : List R} {vs : List V} (f0 : Fresh H0 r v) (f : FreshA H rs vs) (m : ∀ p, H0 p ≠ none → H p ≠ none) : FreshA H0 (r :: rs) (v :: vs) := by
  intro i o a h1 h2
  cases i with
  | zero =>
    simp at h1 h2
    subst h1
    exact f0 a h2
  | succ i =>
    simp at h1 h2
    have := f i o a h1 h2
    cases q : H0 a with
    | none => rfl
    | some u => exact absurd this (m a (ne_none q))
end
section
variable {X : Cx} {pos : Pos} {e : Expr} {es : List Expr} {f : TD} {t : TAD}
theorem fa_nil : FA X [] dNil := ⟨fun ρ n Q Q' m h => m _ _ _ h, pa_weak pa_nil fun σ H Q ⟨c, ρ, n, Hs, D, q⟩ => q _ _ _ D .nil Ext.refl (fun i j o o' a h => by simp at h) fun i o a h => by simp at h⟩
theorem fa_cons (he : FE X e f) (ht : FA X es t) (hs : starEach (e :: es) X.env = (false, eval e X.env) :: starEach es X.env := by rfl) : FA X (e :: es) (dCons f t) := by
  refine ⟨fun ρ n Q Q' m h => he.mono _ _ _ _ (fun r ρ1 n1 h => ht.mono _ _ _ _ (fun rs ρ2 n2 h => m _ _ _ h) h) h, pa_weak (pa_cons he.pe ht.pa hs) ?_⟩
  rintro σ H Q ⟨c, ρ, n, Hs, D, q⟩
  refine ⟨c, ρ, n, Hs, D, he.mono _ _ _ _ (fun r ρ1 n1 q1 v Hs1 H1 D1 R1 E1 F1 => ⟨c, ρ1, n1, Hs1, D1, ht.mono _ _ _ _ (fun rs ρ2 n2 q2 vs Hs2 H2 D2 R2 E2 od fr => ?_) q1⟩) q⟩
  exact q2 (v :: vs) Hs2 H2 D2 (fromConsRel R1 E2 R2) (E1.trans D1 E2) (ownDist_cons R1 od fr) (freshA_cons F1 fr fun p hp => E1.dom D1 hp)
theorem fa_consN (he : FE X e f) (ht : FA X es t) (hs : starEach (e :: es) X.env = (false, eval e X.env) :: starEach es X.env := by rfl) : FA X (e :: es) (dConsN f t) := by
  refine ⟨fun ρ n Q Q' m h => he.mono _ _ _ _ (fun r ρ1 n1 h => toN_mono (fun r h => ht.mono _ _ _ _ (fun rs ρ2 n2 h => m _ _ _ h) h) h) h, pa_weak (pa_cons he.pe ht.pa hs) ?_⟩
  rintro σ H Q ⟨c, ρ, n, Hs, D, q⟩
  refine ⟨c, ρ, n, Hs, D, he.mono _ _ _ _ (fun r ρ1 n1 q1 v Hs1 H1 D1 R1 E1 F1 => ?_) q⟩
  obtain ⟨r', Hs1', D1', R1', no, q1, E1'⟩ := toN_ext E1 D1 R1 F1 q1
  refine ⟨c, ρ1, n1, Hs1', D1', ht.mono _ _ _ _ (fun rs ρ2 n2 q2 vs Hs2 H2 D2 R2 E2 od fr => ?_) q1⟩
  exact q2 (v :: vs) Hs2 H2 D2 (fromConsRel R1' E2 R2) (E1'.trans D1' E2) (ownDist_cons R1' od fr) (freshA_cons (Fresh.no no) fr fun p hp => E1'.dom D1' hp)
end
/-- all are data -/
def allD : List R → Option (List PyData)
  | [] => some []
  | .dat d :: r => (allD r).map (d :: ·)
  | _ => none
theorem allD_at {c : Bs} {ρ : DEnv} {σ : SV} {Hs H : Hp} : ∀ {rs : List R} {vs : List V} {ds : List PyData}, Paired (RRel c ρ σ Hs H) rs vs → allD rs = some ds → DqAll Hs vs ds
  | [], _, _, .nil, e => by cases e; exact .nil
  | .dat d :: r, _, _, .cons h t, e => by
    unfold allD at e
    cases q : allD r with
    | none => rw [q] at e; cases e
    | some es => rw [q] at e; cases e; exact .cons h (allD_at t q)
  | .tmp _ :: _, _, _, _, e => by cases e
  | .own _ :: _, _, _, _, e => by cases e
  | .raw _ :: _, _, _, _, e => by cases e
  | .bag :: _, _, _, _, e => by cases e
def dTup (t : TAD) : TD := fun ρ n Q => t ρ n fun rs ρ' n' => match allD rs with
  | some ds => ds.length ≤ 1000000 ∧ Q (.dat (.tuple ds)) ρ' n'
  | none => False
def dLst (t : TAD) : TD := fun ρ n Q => t ρ n fun rs ρ' n' => match allD rs with
  | some ds => ds.length ≤ 1000000 ∧ Q (.own (.lst ds)) ρ' n'
  | none => False
/-- a call of something known by values -/
def dCB (F : FN) (t : TAD) : TD := fun ρ n Q => t ρ n fun rs ρ' n' => F rs fun r => Q r ρ' n'
theorem paired_obs {c : Bs} {ρ : DEnv} {σ : SV} {Hs H : Hp} : ∀ {rs : List R} {vs : List V}, Paired (RRel c ρ σ Hs H) rs vs → Paired (RObs c Hs H) rs vs
  | _, _, .nil => .nil
  | _, _, .cons h t => .cons h.obs (paired_obs t)
section
variable {X : Cx} {pos p : Pos} {e : Expr} {es : List Expr} {f : TD} {t : TAD}
theorem fe_tup {k} (ht : FA X es t) : FE X (.Tuple es k pos) (dTup t) := by
  refine ⟨fun ρ n Q Q' m h => ht.mono _ _ _ _ (fun rs ρ1 n1 h => ?_) h, pe_weak (pe_tupF ht.pa) ?_⟩
  · revert h; split
    · exact fun h => ⟨h.1, m _ _ _ h.2⟩
    · exact id
  · rintro σ H Q ⟨c, ρ, n, Hs, D, q⟩
    refine ⟨c, ρ, n, Hs, D, ht.mono _ _ _ _ (fun rs ρ1 n1 q vs Hs1 H1 D1 R1 E1 od fr => ?_) q⟩
    revert q; split
    · rename_i ds e
      rintro ⟨h1, h2⟩
      have hd := allD_at R1 e
      refine ⟨by rw [dpAll_len hd]; exact small20 h1, fun p o hp ho => ?_⟩
      obtain ⟨D2, E2⟩ := D1.newSh (o := .frz o (.tup vs)) hp
      exact h2 _ _ _ D2 (show Dq _ _ _ from .tup ⟨o, upd_same, ho⟩ (dpAll_mono E2.sh hd)) (E1.trans D1 E2) trivial
    · exact fun h => h.elim
theorem fe_lst (ht : FA X es t) : FE X (.List es pos) (dLst t) := by
  refine ⟨fun ρ n Q Q' m h => ht.mono _ _ _ _ (fun rs ρ1 n1 h => ?_) h, pe_weak (pe_lst ht.pa) ?_⟩
  · revert h; split
    · exact fun h => ⟨h.1, m _ _ _ h.2⟩
    · exact id
  · rintro σ H Q ⟨c, ρ, n, Hs, D, q⟩
    refine ⟨c, ρ, n, Hs, D, ht.mono _ _ _ _ (fun rs ρ1 n1 q vs Hs1 H1 D1 R1 E1 od fr => ?_) q⟩
    revert q; split
    · rename_i ds e
      rintro ⟨h1, h2⟩
      have hd := allD_at R1 e
      refine ⟨by rw [dpAll_len hd]; exact small20 h1, fun p hp => ?_⟩
      obtain ⟨D2, E2, g1, g2, g3, g4⟩ := D1.newOwn (o := .lst vs) hp
      refine h2 _ _ _ D2 ⟨p, rfl, ⟨_, upd_same, hd, g1, g2, g3⟩, g4⟩ (E1.trans D1 E2) fun a z => ?_
      cases z
      cases q : H p with
      | none => rfl
      | some u => exact absurd hp (E1.dom D1 (ne_none q))
    · exact fun h => h.elim
theorem cb_weak {F : FN} {rH : List V → Hp → VK → Prop} (s : SimN rH F) (ht : MonoA t) : ∀ σ H Q, teE (dCB F t) σ H Q → tCB rH (teA t) σ H Q := by
  rintro σ H Q ⟨c, ρ, n, Hs, D, q⟩
  refine ⟨c, ρ, n, Hs, D, ht _ _ _ _ (fun rs ρ1 n1 q1 vs Hs1 H1 D1 R1 E1 od fr => ?_) q⟩
  exact s c ρ1 n1 σ Hs1 H1 rs vs _ Q D1 (paired_obs R1) q1 fun r'' w Hs3 H3 D3 R3 E3 F3 q3 => q3 w Hs3 H3 D3 R3 (E1.trans D1 E3) (F3.back fun p hp => E1.dom D1 hp)
theorem mono_cb {F : FN} (m : MonoN F) (ht : MonoA t) : MonoE (dCB F t) := fun ρ n Q Q' k h => ht _ _ _ _ (fun rs ρ1 n1 h => m _ _ _ (fun x h => k _ _ _ h) h) h
theorem fe_callB {x : Str} {id : String} {rH : List V → Hp → VK → Prop} {F : FN} (hc : CallR X (.builtin id) rH) (s : SimN rH F) (m : MonoN F) (hm : X.mg x = none) (ha : FA X (e :: es) t) (hv : bootBuiltins x = some (.builtin id) := by decide +kernel) (hg : Gl X x := by rfl) (hn : x ≠ "__name__" := by decide) (hdb : (x == ("__debug__" : Str)) = false := by decide)
    (he : starEach (e :: es) X.env = (false, eval e X.env) :: starEach es X.env := by rfl) (hpl : (backTo pos (starEach es X.env)).any (·.1) = false := by rfl) : FE X (.Call (.Name x p) (e :: es) [] pos) (dCB F t) :=
  ⟨mono_cb m ha.mono, pe_weak (pe_callB hc hg hm hv ha.pa hn hdb he hpl) (cb_weak s ha.mono)⟩
theorem fe_callTy {x : Str} {T : String} {rH : List V → Hp → VK → Prop} {F : FN} (hc : CallR X (.type T) rH) (s : SimN rH F) (m : MonoN F) (hm : X.mg x = none) (ha : FA X (e :: es) t) (hv : bootBuiltins x = some (.type T) := by decide +kernel) (hg : Gl X x := by rfl) (hn : x ≠ "__name__" := by decide) (hdb : (x == ("__debug__" : Str)) = false := by decide)
    (he : starEach (e :: es) X.env = (false, eval e X.env) :: starEach es X.env := by rfl) (hpl : (backTo pos (starEach es X.env)).any (·.1) = false := by rfl) : FE X (.Call (.Name x p) (e :: es) [] pos) (dCB F t) :=
  ⟨mono_cb m ha.mono, pe_weak (pe_callTy hc hg hm hv ha.pa hn hdb he hpl) (cb_weak s ha.mono)⟩
end
/-! ### the built-ins -/
theorem paired1 {α β : Type} {G : α → β → Prop} {a : α} {bs : List β} (h : Paired G [a] bs) : ∃ b, bs = [b] ∧ G a b := by
  cases h with | cons h t => cases t; exact ⟨_, rfl, h⟩
theorem paired2 {α β : Type} {G : α → β → Prop} {a a' : α} {bs : List β} (h : Paired G [a, a'] bs) : ∃ b b', bs = [b, b'] ∧ G a b ∧ G a' b' := by
  cases h with | cons h t => cases t with | cons h' t => cases t; exact ⟨_, _, rfl, h, h'⟩
def f1N (F : F1) : FN := fun rs Q => match rs with | [r] => F r Q | _ => False
def f2N (F : F2) : FN := fun rs Q => match rs with | [r, r'] => F r r' Q | _ => False
theorem mono_1N {F : F1} (m : Mono1 F) : MonoN (f1N F) := fun rs Q Q' k h => by
  unfold f1N at h ⊢; split at h
  · exact m _ _ _ k h
  · exact h.elim
theorem mono_2N {F : F2} (m : Mono2 F) : MonoN (f2N F) := fun rs Q Q' k h => by
  unfold f2N at h ⊢; split at h
  · exact m _ _ _ _ k h
  · exact h.elim
theorem sim_1N {F : F1} {rH : List V → Hp → VK → Prop} (s : Sim1 (fun x H Q => rH [x] H Q) F) : SimN rH (f1N F) := by
  intro c ρ n σ Hs H rs xs Qd Q D o h k
  unfold f1N at h; split at h
  · obtain ⟨x, rfl, o1⟩ := paired1 o
    exact s c ρ n σ Hs H _ x Qd Q D o1 h k
  · exact h.elim
theorem sim_2N {F : F2} {rH : List V → Hp → VK → Prop} (s : Sim2 (fun x y H Q => rH [x, y] H Q) F) : SimN rH (f2N F) := by
  intro c ρ n σ Hs H rs xs Qd Q D o h k
  unfold f2N at h; split at h
  · obtain ⟨x, y, rfl, o1, o2⟩ := paired2 o
    exact s c ρ n σ Hs H _ _ x y Qd Q D o1 o2 h k
  · exact h.elim
/-- ascending, by insertion -/
def ins (x : Int) : List Int → List Int
  | [] => [x]
  | y :: r => if x ≤ y then x :: y :: r else y :: ins x r
def srt : List Int → List Int
  | [] => []
  | x :: r => ins x (srt r)
theorem ins_perm (x : Int) : ∀ l, (ins x l).Perm (x :: l)
  | [] => .refl _
  | y :: r => by
    unfold ins; split
    · exact .refl _
    · exact ((ins_perm x r).cons y).trans (List.Perm.swap x y r)
theorem srt_perm : ∀ l, (srt l).Perm l
  | [] => .refl _
  | x :: r => (ins_perm x (srt r)).trans ((srt_perm r).cons x)
theorem ins_sorted (x : Int) : ∀ l, l.Pairwise (· ≤ ·) → (ins x l).Pairwise (· ≤ ·)
  | [], _ => by simp [ins]
  | y :: r, h => by
    unfold ins
    have h' := List.pairwise_cons.mp h
    split
    · rename_i hx
      refine List.pairwise_cons.mpr ⟨fun z hz => ?_, h⟩
      rcases List.mem_cons.mp hz with rfl | hz
      · exact hx
      · exact Int.le_trans hx (h'.1 z hz)
    · rename_i hx
      refine List.pairwise_cons.mpr ⟨fun z hz => ?_, ins_sorted x r h'.2⟩
      rcases List.mem_cons.mp ((ins_perm x r).mem_iff.mp hz) with rfl | hz
      · omega
      · exact h'.1 z hz
theorem srt_sorted : ∀ l, (srt l).Pairwise (· ≤ ·)
  | [] => .nil
  | x :: r => ins_sorted x _ (srt_sorted r)
theorem sorted_unique : ∀ {l l' : List Int}, l.Perm l' → l.Pairwise (· ≤ ·) → l'.Pairwise (· ≤ ·) → l = l'
  | [], l', h, _, _ => (List.nil_perm.mp h).symm
  | a :: r, [], h, _, _ => by simpa using h.length_eq
  | a :: r, b :: t, h, h1, h2 => by
    have e1 := List.pairwise_cons.mp h1
    have e2 := List.pairwise_cons.mp h2
    have ab : a = b := by
      have ha : a ∈ b :: t := h.mem_iff.mp (List.mem_cons_self)
      have hb : b ∈ a :: r := h.mem_iff.mpr (List.mem_cons_self)
      rcases List.mem_cons.mp ha with e | e
      · exact e
      · rcases List.mem_cons.mp hb with e' | e'
        · exact e'.symm
        · have := e1.1 b e'; have := e2.1 a e; omega
    subst ab
    rw [sorted_unique (List.Perm.cons_inv h) e1.2 e2.2]
theorem srt_of {l l' : List Int} (h : l'.Perm l) (s : l'.Pairwise (· ≤ ·)) : l' = srt l := sorted_unique (h.trans (srt_perm l).symm) s (srt_sorted l)
def fLen : F1 := fun r Q => asSq r fun ds => Q (vI ds.length)
def fSum : F1 := fun r Q => asL r fun ds => ∃ ns : List Int, ds = ns.map PyData.int ∧ Q (vI ns.sum)
def fAll : F1 := fun r Q => asL r fun ds => ∃ bs : List Bool, ds = bs.map PyData.bool ∧ Q (vB (bs.all id))
def fAny : F1 := fun r Q => asL r fun ds => ∃ bs : List Bool, ds = bs.map PyData.bool ∧ Q (vB (bs.any id))
def fSorted : F1 := fun r Q => asL r fun ds => ∃ ns : List Int, ds = ns.map PyData.int ∧ Q (.own (.lst ((srt ns).map PyData.int)))
def fMax2 : F2 := fI2' fun i j => .int (if j > i then j else i)
def fMin2 : F2 := fI2' fun i j => .int (if j < i then j else i)
/-- the greatest, the least of ints -/
def fMaxL : F1 := fun r Q => asL r fun ds => ∃ ns : List Int, ds = ns.map PyData.int ∧ 0 < ns.length ∧ ∀ m, m ∈ ns → (∀ y ∈ ns, y ≤ m) → Q (vI m)
def fMinL : F1 := fun r Q => asL r fun ds => ∃ ns : List Int, ds = ns.map PyData.int ∧ 0 < ns.length ∧ ∀ m, m ∈ ns → (∀ y ∈ ns, m ≤ y) → Q (vI m)
def fAbs : F1 := fun r Q => asI r fun i => Q (vI (if i < 0 then -i else i))
def fTupOf : F1 := fun r Q => asSq r fun ds => Q (.dat (.tuple ds))
def fListOf : F1 := fun r Q => asSq r fun ds => Q (.own (.lst ds))
section
variable {X : Cx} {pos p : Pos} {e : Expr} {es : List Expr} {f : TD} {t : TAD}
theorem fe_len (hm : X.mg "len" = none) (ha : FA X [e] t) (hg : Gl X "len" := by rfl) (he : starEach [e] X.env = (false, eval e X.env) :: starEach [] X.env := by rfl) : FE X (.Call (.Name "len" p) [e] [] pos) (dCB (f1N fLen) t) := by
  refine fe_callB call_len (sim_1N fun c ρ n σ Hs H r x Qd Q D o h k => ?_) (mono_1N fun r Q Q' m h => asSq_mono (fun _ h => m _ h) h) hm ha (hg := hg) (he := he)
  obtain ⟨a, vs, ds, rfl, hs, q1, h⟩ := asSq_at o D.sub h
  refine ⟨_, ds.length, rfl, ?_, k.dat D (.int _) h⟩
  rcases hs with hs | hs
  · exact .inl ⟨vs, SqL.of hs, (dpAll_len q1).symm⟩
  · exact .inr ⟨vs, hs.sq, (dpAll_len q1).symm⟩
theorem fe_sum (hc : X.calm = true) (hm : X.mg "sum" = none) (ha : FA X [e] t) (hg : Gl X "sum" := by rfl) (he : starEach [e] X.env = (false, eval e X.env) :: starEach [] X.env := by rfl) : FE X (.Call (.Name "sum" p) [e] [] pos) (dCB (f1N fSum) t) := by
  refine fe_callB (cr_sum hc) (sim_1N fun c ρ n σ Hs H r x Qd Q D o h k => ?_) (mono_1N fun r Q Q' m h => asL_mono (fun _ ⟨ns, e, h⟩ => ⟨ns, e, m _ h⟩) h) hm ha (hg := hg) (he := he)
  obtain ⟨a, vs, ds, rfl, hs, q1, ns, rfl, h⟩ := asL_at o D.sub h
  rw [dpAll_ints_inv q1] at hs
  exact ⟨a, ns, rfl, SqL.of hs, k.dat D (.int _) h⟩
theorem fe_all (hc : X.calm = true) (hm : X.mg "all" = none) (ha : FA X [e] t) (hg : Gl X "all" := by rfl) (he : starEach [e] X.env = (false, eval e X.env) :: starEach [] X.env := by rfl) : FE X (.Call (.Name "all" p) [e] [] pos) (dCB (f1N fAll) t) := by
  refine fe_callB (cr_all hc) (sim_1N fun c ρ n σ Hs H r x Qd Q D o h k => ?_) (mono_1N fun r Q Q' m h => asL_mono (fun _ ⟨ns, e, h⟩ => ⟨ns, e, m _ h⟩) h) hm ha (hg := hg) (he := he)
  obtain ⟨a, vs, ds, rfl, hs, q1, ns, rfl, h⟩ := asL_at o D.sub h
  rw [dpAll_bools_inv q1] at hs
  exact ⟨a, ns, rfl, SqL.of hs, k.dat D (.bl _) h⟩
theorem fe_sorted (hm : X.mg "sorted" = none) (ha : FA X [e] t) (hg : Gl X "sorted" := by rfl) (he : starEach [e] X.env = (false, eval e X.env) :: starEach [] X.env := by rfl) : FE X (.Call (.Name "sorted" p) [e] [] pos) (dCB (f1N fSorted) t) := by
  refine fe_callB cr_sortedI (sim_1N fun c ρ n σ Hs H r x Qd Q D o h k => ?_) (mono_1N fun r Q Q' m h => asL_mono (fun _ ⟨ns, e, h⟩ => ⟨ns, e, m _ h⟩) h) hm ha (hg := hg) (he := he)
  obtain ⟨a, vs, ds, rfl, hs, q1, ns, rfl, h⟩ := asL_at o D.sub h
  rw [dpAll_ints_inv q1] at hs
  refine ⟨a, ns, rfl, SqL.of hs, fun ns' p pm so hp => ?_⟩
  rw [srt_of pm so]
  exact k.ownL D hp (dpAll_ints _) h
theorem fe_max2 (hc : X.calm = true) {e' : Expr} (hm : X.mg "max" = none) (ha : FA X [e, e'] t) (hg : Gl X "max" := by rfl) (he : starEach [e, e'] X.env = (false, eval e X.env) :: starEach [e'] X.env := by rfl) (hpl : (backTo pos (starEach [e'] X.env)).any (·.1) = false := by rfl) :
    FE X (.Call (.Name "max" p) [e, e'] [] pos) (dCB (f2N fMax2) t) := by
  refine fe_callB (call_max2 hc) (sim_2N fun c ρ n σ Hs H r r' x y Qd Q D o o' h k => ?_) (mono_2N mono_I2') hm ha (hg := hg) (he := he) (hpl := hpl)
  obtain ⟨i, rfl, h1⟩ := asI_inv h
  obtain ⟨j, rfl, h2⟩ := asI_inv h1
  cases o; cases o'
  exact ⟨i, j, rfl, k.dat D (.int _) h2⟩
theorem fe_min2 (hc : X.calm = true) {e' : Expr} (hm : X.mg "min" = none) (ha : FA X [e, e'] t) (hg : Gl X "min" := by rfl) (he : starEach [e, e'] X.env = (false, eval e X.env) :: starEach [e'] X.env := by rfl) (hpl : (backTo pos (starEach [e'] X.env)).any (·.1) = false := by rfl) :
    FE X (.Call (.Name "min" p) [e, e'] [] pos) (dCB (f2N fMin2) t) := by
  refine fe_callB (call_min2 hc) (sim_2N fun c ρ n σ Hs H r r' x y Qd Q D o o' h k => ?_) (mono_2N mono_I2') hm ha (hg := hg) (he := he) (hpl := hpl)
  obtain ⟨i, rfl, h1⟩ := asI_inv h
  obtain ⟨j, rfl, h2⟩ := asI_inv h1
  cases o; cases o'
  exact ⟨i, j, rfl, k.dat D (.int _) h2⟩
theorem fe_maxL (hc : X.calm = true) (hm : X.mg "max" = none) (ha : FA X [e] t) (hg : Gl X "max" := by rfl) (he : starEach [e] X.env = (false, eval e X.env) :: starEach [] X.env := by rfl) : FE X (.Call (.Name "max" p) [e] [] pos) (dCB (f1N fMaxL) t) := by
  refine fe_callB (cr_max hc) (sim_1N fun c ρ n σ Hs H r x Qd Q D o h k => ?_) (mono_1N fun r Q Q' m h => asL_mono (fun _ ⟨ns, e, l, h⟩ => ⟨ns, e, l, fun x h1 h2 => m _ (h x h1 h2)⟩) h) hm ha (hg := hg) (he := he)
  obtain ⟨a, vs, ds, rfl, hs, q1, ns, rfl, hl, h⟩ := asL_at o D.sub h
  rw [dpAll_ints_inv q1] at hs
  exact ⟨a, ns, rfl, SqL.of hs, hl, fun m h1 h2 => k.dat D (.int _) (h m h1 h2)⟩
theorem fe_minL (hc : X.calm = true) (hm : X.mg "min" = none) (ha : FA X [e] t) (hg : Gl X "min" := by rfl) (he : starEach [e] X.env = (false, eval e X.env) :: starEach [] X.env := by rfl) : FE X (.Call (.Name "min" p) [e] [] pos) (dCB (f1N fMinL) t) := by
  refine fe_callB (cr_min hc) (sim_1N fun c ρ n σ Hs H r x Qd Q D o h k => ?_) (mono_1N fun r Q Q' m h => asL_mono (fun _ ⟨ns, e, l, h⟩ => ⟨ns, e, l, fun x h1 h2 => m _ (h x h1 h2)⟩) h) hm ha (hg := hg) (he := he)
  obtain ⟨a, vs, ds, rfl, hs, q1, ns, rfl, hl, h⟩ := asL_at o D.sub h
  rw [dpAll_ints_inv q1] at hs
  exact ⟨a, ns, rfl, SqL.of hs, hl, fun m h1 h2 => k.dat D (.int _) (h m h1 h2)⟩
theorem fe_abs (hm : X.mg "abs" = none) (ha : FA X [e] t) (hg : Gl X "abs" := by rfl) (he : starEach [e] X.env = (false, eval e X.env) :: starEach [] X.env := by rfl) : FE X (.Call (.Name "abs" p) [e] [] pos) (dCB (f1N fAbs) t) := by
  refine fe_callB call_abs (sim_1N fun c ρ n σ Hs H r x Qd Q D o h k => ?_) (mono_1N fun r Q Q' m h => asI_mono (fun _ h => m _ h) h) hm ha (hg := hg) (he := he)
  obtain ⟨i, rfl, h1⟩ := asI_inv h
  cases o
  exact ⟨i, rfl, k.dat D (.int _) h1⟩
theorem fe_tupOf (hm : X.mg "tuple" = none) (ha : FA X [e] t) (hg : Gl X "tuple" := by rfl) (he : starEach [e] X.env = (false, eval e X.env) :: starEach [] X.env := by rfl) : FE X (.Call (.Name "tuple" p) [e] [] pos) (dCB (f1N fTupOf) t) := by
  refine fe_callTy call_tupleF (sim_1N fun c ρ n σ Hs H r x Qd Q D o h k => ?_) (mono_1N fun r Q Q' m h => asSq_mono (fun _ h => m _ h) h) hm ha (hg := hg) (he := he)
  unfold fTupOf asSq at h
  split at h
  · cases o with
    | lst e1 q1 => exact ⟨_, _, rfl, .inl ⟨SqL.of (D.sub _ _ e1), k.newT D q1 h⟩⟩
  · cases o with
    | tup e1 q1 => exact ⟨_, _, rfl, .inr ⟨(e1.mono D.sub).sq, k.dat D (.tup e1 q1) h⟩⟩
  · obtain ⟨a, vs, rfl, e1, q1, _⟩ := o
    exact ⟨_, _, rfl, .inl ⟨SqL.of e1, k.newT D q1 h⟩⟩
  · obtain ⟨a, ho, rfl, e1, q1, _⟩ := o
    cases ho with
    | lst vs => exact ⟨_, _, rfl, .inl ⟨SqL.of e1, k.newT D q1 h⟩⟩
    | _ => exact q1.elim
  · exact h.elim
theorem fe_listOf (hm : X.mg "list" = none) (ha : FA X [e] t) (hg : Gl X "list" := by rfl) (he : starEach [e] X.env = (false, eval e X.env) :: starEach [] X.env := by rfl) : FE X (.Call (.Name "list" p) [e] [] pos) (dCB (f1N fListOf) t) := by
  refine fe_callTy call_list_of (sim_1N fun c ρ n σ Hs H r x Qd Q D o h k => ?_) (mono_1N fun r Q Q' m h => asSq_mono (fun _ h => m _ h) h) hm ha (hg := hg) (he := he)
  obtain ⟨a, vs, ds, rfl, hs, q1, h⟩ := asSq_at o D.sub h
  refine ⟨a, vs, rfl, ?_, fun l hl => k.ownL D hl q1 h⟩
  rcases hs with hs | hs
  · exact .inl (SqL.of hs)
  · exact .inr hs.sq
end
/-! ### isinstance of data -/
def tag : PyData → String
  | .none => "NoneType"
  | .bool _ => "bool"
  | .int _ => "int"
  | .str _ => "str"
  | .list _ => "list"
  | .tuple _ => "tuple"
  | .dict _ => "dict"
def isTag (T S : String) : Bool := S == T || (S == "bool" && T == "int")
def isT (T : String) (d : PyData) : Bool := isTag T (tag d)
def okT (T : String) : Bool := T == "int" || T == "bool" || T == "str" || T == "list" || T == "tuple"
def fIsi : F2 := fun r r' Q => asD r fun d => match r' with
  | .raw (.ty T) => okT T = true ∧ (match d with | .dict _ => False | _ => True) ∧ Q (vB (isT T d))
  | _ => False
theorem mono_isi : Mono2 fIsi := fun r r' Q Q' m h => asD_mono (fun d h => by
  revert h; split
  · exact fun h => ⟨h.1, h.2.1, m _ h.2.2⟩
  · exact id) h
theorem okT_cases {T : String} (h : okT T = true) : T = "int" ∨ T = "bool" ∨ T = "str" ∨ T = "list" ∨ T = "tuple" := by
  simpa [okT, or_assoc] using h
theorem kit_tag {K : PySem.W.Frag} {T S : String} (h : okT T = true) (hS : S = "NoneType" ∨ S = "bool" ∨ S = "int" ∨ S = "str" ∨ S = "list" ∨ S = "tuple") : PySem.W.kitOne K (.type S) (.type T) = some (isTag T S) := by
  refine kit_ty ?_
  rcases okT_cases h with rfl | rfl | rfl | rfl | rfl <;> rcases hS with rfl | rfl | rfl | rfl | rfl | rfl <;> decide +kernel
theorem isi_kit {K : PySem.W.Frag} {H : Hp} {x : V} {d : PyData} (h : Dq H x d) : ∃ t, TyX K H x t ∧ ∀ T, okT T = true → PySem.W.kitOne K t (.type T) = some (isT T d) := by
  cases h with
  | non => exact ⟨_, .base .non, fun T hT => kit_tag hT (by simp)⟩
  | bl b => exact ⟨_, .base (.bl b), fun T hT => kit_tag hT (by simp)⟩
  | int b => exact ⟨_, .base (.int b), fun T hT => kit_tag hT (by simp)⟩
  | str b => exact ⟨_, .base (.str b), fun T hT => kit_tag hT (by simp)⟩
  | lst e _ => exact ⟨_, .base (.lst e), fun T hT => kit_tag hT (by simp)⟩
  | tup e _ => obtain ⟨o, e, _⟩ := e; exact ⟨_, .fTuple e, fun T hT => kit_tag hT (by simp)⟩
section
variable {X : Cx} {pos p : Pos} {e e' : Expr} {es : List Expr} {f : TD} {t : TAD}
theorem fe_isi (hm : X.mg "isinstance" = none) (ha : FA X [e, e'] t) (hg : Gl X "isinstance" := by rfl) (he : starEach [e, e'] X.env = (false, eval e X.env) :: starEach [e'] X.env := by rfl) (hpl : (backTo pos (starEach [e'] X.env)).any (·.1) = false := by rfl) :
    FE X (.Call (.Name "isinstance" p) [e, e'] [] pos) (dCB (f2N fIsi) t) := by
  refine fe_callB call_isi (sim_2N fun c ρ n σ Hs H r r' x y Qd Q D o o' h k => ?_) (mono_2N mono_isi) hm ha (hg := hg) (he := he) (hpl := hpl)
  obtain ⟨d, q1, h⟩ := asD_at o D.sub h
  split at h
  · obtain ⟨h1, h2, h3⟩ := h
    rename_i T
    obtain ⟨t, h4, h5⟩ := isi_kit (K := X.K) q1
    have h5 := h5 _ h1
    have e2 : y = .ty T := o'
    subst e2
    exact ⟨x, _, t, _, _, rfl, .ty T, h4, h5, k.dat D (.bl _) h3⟩
  · exact h.elim
end
end DL

namespace DL
open PySem PySem.Spec PyProof.Rows L2
/-! ### tests -/
def dTest (f : TD) : TTD := fun ρ n Q => f ρ n fun r ρ' n' => asB r fun b => Q b ρ' n'
def dNotT (f : TTD) : TTD := fun ρ n Q => f ρ n fun b ρ' n' => Q (!b) ρ' n'
def dAndT (f g : TTD) : TTD := fun ρ n Q => f ρ n fun b ρ' n' => if b = true then g ρ' n' Q else Q false ρ' n'
def dOrT (f g : TTD) : TTD := fun ρ n Q => f ρ n fun b ρ' n' => if b = true then Q true ρ' n' else g ρ' n' Q
def dAnd (f g : TD) : TD := fun ρ n Q => f ρ n fun r ρ' n' => asB r fun b => if b = true then g ρ' n' Q else Q (vB false) ρ' n'
def dOr (f g : TD) : TD := fun ρ n Q => f ρ n fun r ρ' n' => asB r fun b => if b = true then Q (vB true) ρ' n' else g ρ' n' Q
def dNot (f : TD) : TD := fun ρ n Q => f ρ n fun r ρ' n' => asB r fun b => Q (vB (!b)) ρ' n'
def dIfE (t : TTD) (f g : TD) : TD := fun ρ n Q => t ρ n fun b ρ' n' => if b = true then f ρ' n' Q else g ρ' n' Q
structure FW (X : Cx) (e : Expr) (f : TTD) : Prop where
  mono : MonoT f
  pw : PW X e (teT f)
theorem ite_mono {b : Bool} {A B A' B' : Prop} (h1 : A → A') (h2 : B → B') (h : if b = true then A else B) : if b = true then A' else B' := by
  cases b
  · exact h2 h
  · exact h1 h
section
variable {X : Cx} {pos : Pos} {a b c' e : Expr} {f g : TD} {t u : TTD} {rest : List Expr}
theorem ft_val (h : FE X e f) (he : ∀ whole, isTrue e X.env whole = (do let v ← whole; standAt e.pos; holding [v] (truthy v)) := by intro _; rfl) : FT X e (dTest f) :=
  ⟨fun ρ n Q Q' m q => h.mono _ _ _ _ (fun r ρ1 n1 q => asB_mono (fun b q => m _ _ _ q) q) q, pt_weak (pt_val h.pe he) fun σ H Q ⟨c, ρ, n, Hs, D, q⟩ =>
    ⟨c, ρ, n, Hs, D, h.mono _ _ _ _ (fun r ρ1 n1 q v Hs1 H1 D1 R1 E1 F1 => by
      obtain ⟨b, rfl, q⟩ := asB_inv q
      cases R1
      exact ⟨b, rfl, q _ _ D1 E1⟩) q⟩⟩
theorem ft_not (h : FT X a t) : FT X (.UnaryOp .Not a pos) (dNotT t) :=
  ⟨fun ρ n Q Q' m q => h.mono _ _ _ _ (fun r ρ1 n1 q => m _ _ _ q) q, pt_weak (pt_not h.pt) fun σ H Q ⟨c, ρ, n, Hs, D, q⟩ => ⟨c, ρ, n, Hs, D, q⟩⟩
theorem fw_and1 (h : FT X a t) : FW X (.BoolOp .And [a] pos) t := ⟨h.mono, pw_and1 h.pt⟩
theorem fw_or1 (h : FT X a t) : FW X (.BoolOp .Or [a] pos) t := ⟨h.mono, pw_or1 h.pt⟩
theorem fw_and (h : FT X a t) (h' : FW X (.BoolOp .And (b :: rest) pos) u) : FW X (.BoolOp .And (a :: b :: rest) pos) (dAndT t u) :=
  ⟨fun ρ n Q Q' m q => h.mono _ _ _ _ (fun r ρ1 n1 q => ite_mono (fun q => h'.mono _ _ _ _ m q) (fun q => m _ _ _ q) q) q, pw_weak (pw_and h.pt h'.pw) fun σ H Q ⟨c, ρ, n, Hs, D, q⟩ =>
    ⟨c, ρ, n, Hs, D, h.mono _ _ _ _ (fun r ρ1 n1 q Hs1 H1 D1 E1 => ite_mono (fun q => ⟨c, ρ1, n1, Hs1, D1, h'.mono _ _ _ _ (fun b ρ2 n2 q Hs2 H2 D2 E2 => q _ _ D2 (E1.trans D1 E2)) q⟩) (fun q => q _ _ D1 E1) q) q⟩⟩
theorem fw_or (h : FT X a t) (h' : FW X (.BoolOp .Or (b :: rest) pos) u) : FW X (.BoolOp .Or (a :: b :: rest) pos) (dOrT t u) :=
  ⟨fun ρ n Q Q' m q => h.mono _ _ _ _ (fun r ρ1 n1 q => ite_mono (fun q => m _ _ _ q) (fun q => h'.mono _ _ _ _ m q) q) q, pw_weak (pw_or h.pt h'.pw) fun σ H Q ⟨c, ρ, n, Hs, D, q⟩ =>
    ⟨c, ρ, n, Hs, D, h.mono _ _ _ _ (fun r ρ1 n1 q Hs1 H1 D1 E1 => ite_mono (fun q => q _ _ D1 E1) (fun q => ⟨c, ρ1, n1, Hs1, D1, h'.mono _ _ _ _ (fun b ρ2 n2 q Hs2 H2 D2 E2 => q _ _ D2 (E1.trans D1 E2)) q⟩) q) q⟩⟩
theorem FW.ft (h : FW X e t) : FT X e t := ⟨h.mono, h.pw.pt⟩
theorem fe_one {op} (h : FE X a f) : FE X (.BoolOp op [a] pos) f := ⟨h.mono, pe_one h.pe⟩
/-- .. seen from the start of the first -/
theorem later {c : Bs} {ρ ρ1 : DEnv} {n1 : Nat} {σ : SV} {Hs H Hs1 H1 : Hp} {Q : VK} (hg : MonoE g) (D1 : DRel c ρ1 n1 σ Hs1 H1) (E1 : Ext c σ ρ Hs H ρ1 Hs1 H1)
    (q : g ρ1 n1 fun r ρ' n' => ∀ v Hs' H', DRel c ρ' n' σ Hs' H' → RRel c ρ' σ Hs' H' r v → Ext c σ ρ Hs H ρ' Hs' H' → Fresh H r v → Q v H') : teE g σ H1 Q :=
  ⟨c, ρ1, n1, Hs1, D1, hg _ _ _ _ (fun r ρ2 n2 q v Hs2 H2 D2 R2 E2 F2 => q v _ _ D2 R2 (E1.trans D1 E2) (F2.back fun p hp => E1.dom D1 hp)) q⟩
theorem fe_and (h : FE X a f) (h' : FE X (.BoolOp .And (b :: rest) pos) g) : FE X (.BoolOp .And (a :: b :: rest) pos) (dAnd f g) :=
  ⟨fun ρ n Q Q' m q => h.mono _ _ _ _ (fun r ρ1 n1 q => asB_mono (fun b q => ite_mono (fun q => h'.mono _ _ _ _ m q) (fun q => m _ _ _ q) q) q) q, pe_weak (pe_and h.pe h'.pe) fun σ H Q ⟨c, ρ, n, Hs, D, q⟩ =>
    ⟨c, ρ, n, Hs, D, h.mono _ _ _ _ (fun r ρ1 n1 q v Hs1 H1 D1 R1 E1 F1 => by
      obtain ⟨b, rfl, q⟩ := asB_inv q
      cases R1
      exact ⟨b, rfl, ite_mono (fun q => later h'.mono D1 E1 q) (fun q => q _ _ _ D1 (.bl _) E1 trivial) q⟩) q⟩⟩
theorem fe_or (h : FE X a f) (h' : FE X (.BoolOp .Or (b :: rest) pos) g) : FE X (.BoolOp .Or (a :: b :: rest) pos) (dOr f g) :=
  ⟨fun ρ n Q Q' m q => h.mono _ _ _ _ (fun r ρ1 n1 q => asB_mono (fun b q => ite_mono (fun q => m _ _ _ q) (fun q => h'.mono _ _ _ _ m q) q) q) q, pe_weak (pe_or h.pe h'.pe) fun σ H Q ⟨c, ρ, n, Hs, D, q⟩ =>
    ⟨c, ρ, n, Hs, D, h.mono _ _ _ _ (fun r ρ1 n1 q v Hs1 H1 D1 R1 E1 F1 => by
      obtain ⟨b, rfl, q⟩ := asB_inv q
      cases R1
      exact ⟨b, rfl, ite_mono (fun q => q _ _ _ D1 (.bl _) E1 trivial) (fun q => later h'.mono D1 E1 q) q⟩) q⟩⟩
theorem fe_not (h : FE X a f) : FE X (.UnaryOp .Not a pos) (dNot f) :=
  ⟨fun ρ n Q Q' m q => h.mono _ _ _ _ (fun r ρ1 n1 q => asB_mono (fun b q => m _ _ _ q) q) q, pe_weak (pe_not h.pe) fun σ H Q ⟨c, ρ, n, Hs, D, q⟩ =>
    ⟨c, ρ, n, Hs, D, h.mono _ _ _ _ (fun r ρ1 n1 q v Hs1 H1 D1 R1 E1 F1 => by
      obtain ⟨b, rfl, q⟩ := asB_inv q
      cases R1
      exact ⟨b, rfl, q _ _ _ D1 (.bl _) E1 trivial⟩) q⟩⟩
theorem fe_ifE (h : FT X e t) (ha : FE X a f) (hb : FE X b g) : FE X (.IfExp e a b pos) (dIfE t f g) :=
  ⟨fun ρ n Q Q' m q => h.mono _ _ _ _ (fun r ρ1 n1 q => ite_mono (fun q => ha.mono _ _ _ _ m q) (fun q => hb.mono _ _ _ _ m q) q) q, pe_weak (pe_ifExp h.pt ha.pe hb.pe) fun σ H Q ⟨c, ρ, n, Hs, D, q⟩ =>
    ⟨c, ρ, n, Hs, D, h.mono _ _ _ _ (fun r ρ1 n1 q Hs1 H1 D1 E1 => ite_mono (fun q => later ha.mono D1 E1 q) (fun q => later hb.mono D1 E1 q) q) q⟩⟩
/-- a <= b <= c, of ints -/
def dChain (F G : F2) (f g h : TD) : TD := fun ρ n Q => f ρ n fun r ρ1 n1 => g ρ1 n1 fun r' ρ2 n2 => F r r' fun z => asB z fun k => if k = true then h ρ2 n2 fun r'' ρ3 n3 => G r' r'' fun z => Q z ρ3 n3 else Q (vB false) ρ2 n2
theorem mono_chain {p p' : Int → Int → Bool} {h : TD} (ha : MonoE f) (hb : MonoE g) (hc : MonoE h) : MonoE (dChain (fI2' fun i j => .bool (p i j)) (fI2' fun i j => .bool (p' i j)) f g h) :=
  fun ρ n Q Q' m q => ha _ _ _ _ (fun r ρ1 n1 q => hb _ _ _ _ (fun r' ρ2 n2 q => mono_I2' _ _ _ _ (fun z q => asB_mono (fun k q => ite_mono (fun q => hc _ _ _ _ (fun r'' ρ3 n3 q => mono_I2' _ _ _ _ (fun z q => m _ _ _ q) q) q) (fun q => m _ _ _ q) q) q) q) q) q
theorem chain_weak {p p' : Int → Int → Bool} {h : TD} (ha : MonoE f) (hb : MonoE g) (hc : MonoE h) : ∀ σ H Q, teE (dChain (fI2' fun i j => .bool (p i j)) (fI2' fun i j => .bool (p' i j)) f g h) σ H Q → tChain (rI0 fun i j => .bl (p i j)) (rI0 fun i j => .bl (p' i j)) (teE f) (teE g) (teE h) σ H Q := by
  rintro σ H Q ⟨c, ρ, n, Hs, D, q⟩
  refine ⟨c, ρ, n, Hs, D, ha _ _ _ _ (fun r ρ1 n1 q1 v Hs1 H1 D1 R1 E1 F1 => ⟨c, ρ1, n1, Hs1, D1, hb _ _ _ _ (fun r' ρ2 n2 q2 u Hs2 H2 D2 R2 E2 F2 => ?_) q1⟩) q⟩
  obtain ⟨i, rfl, h1⟩ := asI_inv q2
  obtain ⟨j, rfl, h2⟩ := asI_inv h1
  have R1' := R1.ext E2
  cases R1'; cases R2
  refine ⟨i, j, rfl, rfl, p i j, rfl, ite_mono (fun q => ?_) (fun q => q _ _ _ D2 (.bl _) (E1.trans D1 E2) trivial) h2⟩
  refine ⟨c, ρ2, n2, Hs2, D2, hc _ _ _ _ (fun r'' ρ3 n3 q3 w Hs3 H3 D3 R3 E3 F3 => ?_) q⟩
  obtain ⟨i', e, h3⟩ := asI_inv q3
  cases e
  obtain ⟨k, rfl, h4⟩ := asI_inv h3
  cases R3
  exact ⟨_, k, rfl, rfl, h4 _ _ _ D3 (.bl _) (E1.trans D1 (E2.trans D2 E3)) trivial⟩
theorem test_weak (hf : MonoE f) {te : TE} (w : ∀ σ H Q, teE f σ H Q → te σ H Q) : ∀ σ H Q, teT (dTest f) σ H Q → tTest te σ H Q := by
  rintro σ H Q ⟨c, ρ, n, Hs, D, q⟩
  refine w _ _ _ ⟨c, ρ, n, Hs, D, hf _ _ _ _ (fun r ρ1 n1 q v Hs1 H1 D1 R1 E1 F1 => ?_) q⟩
  obtain ⟨b, rfl, q⟩ := asB_inv q
  cases R1
  exact ⟨b, rfl, q _ _ D1 E1⟩
theorem ft_cmpR {op : CmpOp} {rH : R2} {F : F2} (ho : OpR X (compareOp op) rH) (s : Sim2 rH F) (m : Mono2 F) (ha : FE X a f) (hb : FE X b g) (hm : behindInMarks op b = false) : FT X (.Compare a [op] [b] pos) (dTest (dBin F f g)) :=
  ⟨fun ρ n Q Q' k q => mono_bin m ha.mono hb.mono _ _ _ _ (fun r ρ1 n1 q => asB_mono (fun b q => k _ _ _ q) q) q, pt_weak (pt_cmpR ho ha.pe hb.pe hm) (test_weak (mono_bin m ha.mono hb.mono) (bin_weak s ha.mono hb.mono))⟩
theorem ft_lt (ha : FE X a f) (hb : FE X b g) : FT X (.Compare a [.Lt] [b] pos) (dTest (dBin fLt f g)) := ft_cmpR op_lt (sim_I0 fun _ _ _ => .bl _) mono_I2' ha hb (nomark _)
theorem ft_le (ha : FE X a f) (hb : FE X b g) : FT X (.Compare a [.LtE] [b] pos) (dTest (dBin fLe f g)) := ft_cmpR op_le (sim_I0 fun _ _ _ => .bl _) mono_I2' ha hb (nomark _)
theorem ft_gt (ha : FE X a f) (hb : FE X b g) : FT X (.Compare a [.Gt] [b] pos) (dTest (dBin fGt f g)) := ft_cmpR op_gt (sim_I0 fun _ _ _ => .bl _) mono_I2' ha hb (nomark _)
theorem ft_ge (ha : FE X a f) (hb : FE X b g) : FT X (.Compare a [.GtE] [b] pos) (dTest (dBin fGe f g)) := ft_cmpR op_ge (sim_I0 fun _ _ _ => .bl _) mono_I2' ha hb (nomark _)
theorem ft_eq (hu : X.A.units + 64 < cLine) (ha : FE X a f) (hb : FE X b g) : FT X (.Compare a [.Eq] [b] pos) (dTest (dBin fEq f g)) := ft_cmpR (op_eqD hu) sim_eq mono_eq ha hb (nomark _)
theorem ft_ne (hu : X.A.units + 64 < cLine) (ha : FE X a f) (hb : FE X b g) : FT X (.Compare a [.NotEq] [b] pos) (dTest (dBin fNe f g)) := ft_cmpR (op_neD hu) sim_ne mono_ne ha hb (nomark _)
theorem ft_isN (ha : FE X a f) (hb : FE X b g) : FT X (.Compare a [.Is] [b] pos) (dTest (dBin fIsN' f g)) := ft_cmpR op_isN sim_isN mono_isN ha hb (nomark _)
theorem ft_notN (ha : FE X a f) (hb : FE X b g) : FT X (.Compare a [.IsNot] [b] pos) (dTest (dBin fNotN' f g)) := ft_cmpR op_notN sim_notN mono_notN ha hb (nomark _)
theorem ft_isB (ha : FE X a f) (hb : FE X b g) : FT X (.Compare a [.Is] [b] pos) (dTest (dBin fIsB f g)) := ft_cmpR op_isBl sim_isB mono_isB ha hb (nomark _)
theorem ft_notB (ha : FE X a f) (hb : FE X b g) : FT X (.Compare a [.IsNot] [b] pos) (dTest (dBin fNotB f g)) := ft_cmpR op_notBl sim_notB mono_notB ha hb (nomark _)
theorem fe_chain {op op' : CmpOp} {p p' : Int → Int → Bool} {h : TD} (ho : OpR X (compareOp op) (rI0 fun i j => .bl (p i j))) (ho' : OpR X (compareOp op') (rI0 fun i j => .bl (p' i j))) (ha : FE X a f) (hb : FE X b g) (hc : FE X c' h)
    (hm : lastMarks [op, op'] [b, c'] = false := by with_unfolding_all rfl) : FE X (.Compare a [op, op'] [b, c'] pos) (dChain (fI2' fun i j => .bool (p i j)) (fI2' fun i j => .bool (p' i j)) f g h) :=
  ⟨mono_chain ha.mono hb.mono hc.mono, pe_weak (pe_chain ho ho' ha.pe hb.pe hc.pe hm) (chain_weak ha.mono hb.mono hc.mono)⟩
theorem ft_chain {op op' : CmpOp} {p p' : Int → Int → Bool} {h : TD} (ho : OpR X (compareOp op) (rI0 fun i j => .bl (p i j))) (ho' : OpR X (compareOp op') (rI0 fun i j => .bl (p' i j))) (ha : FE X a f) (hb : FE X b g) (hc : FE X c' h)
    (hm : lastMarks [op, op'] [b, c'] = false := by with_unfolding_all rfl) : FT X (.Compare a [op, op'] [b, c'] pos) (dTest (dChain (fI2' fun i j => .bool (p i j)) (fI2' fun i j => .bool (p' i j)) f g h)) :=
  ⟨fun ρ n Q Q' m q => mono_chain ha.mono hb.mono hc.mono _ _ _ _ (fun r ρ1 n1 q => asB_mono (fun b q => m _ _ _ q) q) q, pt_weak (pt_chain ho ho' ha.pe hb.pe hc.pe hm) (test_weak (mono_chain ha.mono hb.mono hc.mono) (chain_weak ha.mono hb.mono hc.mono))⟩
end
/-! ### calls of the text's defs -/
abbrev SpD := List R → Nat → (R → Nat → Prop) → Prop
def MonoSp (s : SpD) : Prop := ∀ rs n (Q Q' : R → Nat → Prop), (∀ r m, Q r m → Q' r m) → s rs n Q → s rs n Q'
def isN : R → Bool
  | .dat _ => true
  | .raw _ => true
  | .bag => true
  | _ => false
def allN : List R → Bool
  | [] => true
  | .dat _ :: r => allN r
  | .raw _ :: r => allN r
  | .bag :: r => allN r
  | _ => false
def slOf : R → Sl
  | .dat d => .dat d
  | .raw v => .raw v
  | .bag => .bag
  | .own o => .own o
  | _ => .un
/-- what a def promises, in data -/
def spD (s : SpD) : Sp := fun vs H Q _ => ∃ (B : Option Addr) (Hs : Hp) (rs : List R) (n : Nat), DRel ⟨B, H, Hs⟩ [] n [] Hs H ∧ Paired (RObs ⟨B, H, Hs⟩ Hs H) rs vs ∧ allN rs = true ∧
  s rs n (fun r n' => ∀ v Hs' H', DRel ⟨B, H, Hs⟩ [] n' [] Hs' H' → RRel ⟨B, H, Hs⟩ [] [] Hs' H' r v → Q v H')
def dCall (s : SpD) (t : TAD) : TD := fun ρ n Q => t ρ n fun rs ρ1 n1 => match allN rs with
  | true => s rs n1 fun r n2 => Q r ρ1 n2
  | false => False
section
variable {c : Bs} {ρ ρ' : DEnv} {n n' : Nat} {σ : SV} {Hs H Hs' H' : Hp}
/-- into a call -/
theorem DRel.entry (D : DRel c ρ n σ Hs H) : DRel ⟨c.B, H, Hs⟩ [] n [] Hs H :=
  ⟨D.sub, fun _ _ h => h, fun _ _ => rfl, fun _ _ _ h => h, D.bag, rfl, fun i => by simp [SlotOk], fun i j o o' a h => by simp at h⟩
theorem obs_entry {Hb Ha : Hp} : ∀ {rs : List R} {vs : List V}, Paired (RRel c ρ σ Hs H) rs vs → allN rs = true → Paired (RObs ⟨c.B, Hb, Ha⟩ Hs H) rs vs
  | [], _, .nil, _ => .nil
  | .dat d :: r, _, .cons h t, e => .cons h (obs_entry t e)
  | .raw d :: r, _, .cons h t, e => .cons h (obs_entry t e)
  | .bag :: r, _, .cons h t, e => .cons h (obs_entry t e)
  | .tmp _ :: r, _, .cons h t, e => nomatch e
  | .own _ :: r, _, .cons h t, e => nomatch e
/-- back from a call -/
theorem DRel.back (D : DRel c ρ n σ Hs H) (D' : DRel ⟨c.B, H, Hs⟩ [] n' [] Hs' H') : DRel c ρ n' σ Hs' H' ∧ Ext c σ ρ Hs H ρ Hs' H' := by
  have fx : ∀ p, H p ≠ none → Hs' p = Hs p := D'.fix
  have s1 : Same Hs Hs' := D'.base
  have st : ∀ p o, c.B ≠ some p → H p = some o → H' p = some o := D'.old
  refine ⟨⟨D'.sub, D.base.trans s1, fun p hp => (fx p (D.domH hp)).trans (D.fix p hp), fun p o b h => st _ _ b (D.old p o b h), D'.bag, D.len, fun i => ?_, D.dist⟩, ⟨s1, st, fun p h0 h1 _ => (fx p h0).trans h1, fun _ h => h⟩⟩
  have q := D.slot i
  revert q
  unfold SlotOk
  split
  · rintro ⟨x, e, q⟩; exact ⟨x, e, dp_mono s1 q⟩
  · rintro ⟨a, e, ho, h1, h2, h3, h4, h5⟩
    exact ⟨a, e, ho, st _ _ h5 h1, ownRel_mono s1 h2, (fx a (ne_none h1)).trans h3, h4, h5⟩
  · exact fun q => q
  · exact fun q => q
  · exact fun q => q
theorem RRel.back {r : R} {v : V} (D : DRel c ρ n σ Hs H) (R' : RRel ⟨c.B, H, Hs⟩ [] [] Hs' H' r v) : RRel c ρ σ Hs' H' r v ∧ Fresh H r v := by
  cases r with
  | own o =>
    obtain ⟨a, rfl, ⟨ho, h1, h2, h3, h4, h5⟩, _⟩ := R'
    have h4' : H a = none := h4
    refine ⟨⟨a, rfl, ⟨ho, h1, h2, h3, ?_, h5⟩, ?_⟩, fun b e => by cases e; exact h4'⟩
    · cases q : c.Hb a with
      | none => rfl
      | some u => exact absurd h4' (D.domH (ne_none q))
    · rintro ⟨i, o', e1, e2⟩
      have s := D.slot i
      rw [e1, e2] at s
      obtain ⟨b, e, ho', g1, _⟩ := s
      cases e
      exact ne_none g1 h4'
  | dat d => exact ⟨R', trivial⟩
  | tmp d => exact ⟨R', trivial⟩
  | raw d => exact ⟨R', trivial⟩
  | bag => exact ⟨R', trivial⟩
end
section
variable {X : Cx} {x : Str} {p pos : Pos} {e : Expr} {es : List Expr} {t : TAD} {k : Nat} {f : Addr} {fd : FuncData} {ps : List Str} {s : SpD}
theorem call_weak (m : MonoSp s) (ht : MonoA t) : ∀ σ H Q, teE (dCall s t) σ H Q → tCall (spD s) [] E0 (teA t) σ H Q := by
  rintro σ H Q ⟨c, ρ, n, Hs, D, q⟩
  refine ⟨c, ρ, n, Hs, D, ht _ _ _ _ (fun rs ρ1 n1 q1 vs Hs1 H1 D1 R1 E1 od fr => ?_) q⟩
  show spD s (vs ++ []) H1 Q E0
  rw [List.append_nil]
  split at q1
  · rename_i ea
    refine ⟨c.B, Hs1, rs, n1, D1.entry, obs_entry R1 ea, ea, m _ _ _ _ (fun r n2 q2 v Hs2 H2 D2 R2 => ?_) q1⟩
    obtain ⟨D3, E3⟩ := D1.back D2
    obtain ⟨R3, F3⟩ := RRel.back D1 R2
    exact q2 v _ _ D3 R3 (E1.trans D1 E3) (F3.back fun p hp => E1.dom D1 hp)
  · exact q1.elim
theorem fe_call (F : FnOk X.prog X.w X.K X.mg X.base CX0 k f fd ps (spD s)) (m : MonoSp s) (hr : Room k X.A) (hm : X.mg x = some (.ref f)) (hk : PySem.W.keepIn X.K (.ref f) = true) (hb : Binds X.K fd ps [])
    (ha : FA X (e :: es) t) (hg : Gl X x := by rfl) (hdb : (x == ("__debug__" : Str)) = false := by decide) (he : starEach (e :: es) X.env = (false, eval e X.env) :: starEach es X.env := by rfl) (hpl : (backTo pos (starEach es X.env)).any (·.1) = false := by rfl) :
    FE X (.Call (.Name x p) (e :: es) [] pos) (dCall s t) :=
  ⟨fun ρ n Q Q' k h => ha.mono _ _ _ _ (fun rs ρ1 n1 h => by
    revert h; split
    · exact fun h => m _ _ _ _ (fun r n2 h => k _ _ _ h) h
    · exact id) h, pe_weak (pe_call F hr hg hm hk hb .nil pass0 ha.pa hdb he hpl) (call_weak m ha.mono)⟩
end
/-! ### targets -/
abbrev TGD := PyData → DEnv → (DEnv → Prop) → Prop
abbrev TGsD := List PyData → DEnv → (DEnv → Prop) → Prop
def SameBut (vs : List Nat) (σ σ' : SV) : Prop := σ'.length = σ.length ∧ ∀ j : Nat, j ∉ vs → σ'[j]? = σ[j]?
def MonoG (g : TGD) : Prop := ∀ d ρ Q Q', (∀ ρ', Q ρ' → Q' ρ') → g d ρ Q → g d ρ Q'
def MonoGs (g : TGsD) : Prop := ∀ d ρ Q Q', (∀ ρ', Q ρ' → Q' ρ') → g d ρ Q → g d ρ Q'
/-- data, or a new pair that is taken to pieces at once -/
def DqW (w : Bool) (Hs H : Hp) (v : V) (d : PyData) : Prop := Dq Hs v d ∨ (w = true ∧ ∃ a xs ds, v = .ref a ∧ H a = some (.tup xs) ∧ DqAll Hs xs ds ∧ d = .tuple ds)
def teG (w : Bool) (g : TGD) (vs : List Nat) : TG := fun v σ H Q => ∃ c ρ n Hs d, DRel c ρ n σ Hs H ∧ DqW w Hs H v d ∧ g d ρ (fun ρ' => ∀ σ', DRel c ρ' n σ' Hs H → SameBut vs σ σ' → (∀ p, Owned ρ' σ' p → Owned ρ σ p) → Q σ' H)
def teGs (g : TGsD) (vs : List Nat) : TGs := fun us σ H Q => ∃ c ρ n Hs ds, DRel c ρ n σ Hs H ∧ DqAll Hs us ds ∧ g ds ρ (fun ρ' => ∀ σ', DRel c ρ' n σ' Hs H → SameBut vs σ σ' → (∀ p, Owned ρ' σ' p → Owned ρ σ p) → Q σ' H)
structure FG (w : Bool) (X : Cx) (tg : Expr) (g : TGD) (vs : List Nat) : Prop where
  mono : MonoG g
  pg : PG X tg (teG w g vs)
structure FGs (X : Cx) (tg : List Expr) (g : TGsD) (vs : List Nat) : Prop where
  mono : MonoGs g
  pgs : PGs X tg (teGs g vs)
theorem pg_weak {X : Cx} {e : Expr} {t t' : TG} (h : PG X e t) (w : ∀ v σ H Q, t' v σ H Q → t v σ H Q) : PG X e t' := ⟨fun pins s σ H v u Q I r q => h.run pins s σ H v u Q I r (w _ _ _ _ q)⟩
theorem pgs_weak {X : Cx} {e : List Expr} {t t' : TGs} (h : PGs X e t) (w : ∀ v σ H Q, t' v σ H Q → t v σ H Q) : PGs X e t' := ⟨fun pins s σ H v u Q I r q => h.run pins s σ H v u Q I r (w _ _ _ _ q)⟩
section
variable {c : Bs} {ρ ρ' : DEnv} {n n' : Nat} {σ : SV} {Hs H Hs' H' : Hp}
theorem set_get? {α : Type} {l : List α} {i j : Nat} {a b : α} (h : (l.set i a)[j]? = some b) : (j = i ∧ b = a) ∨ (j ≠ i ∧ l[j]? = some b) := by
  by_cases e : i = j
  · subst e
    have : i < l.length := by
      rcases Nat.lt_or_ge i l.length with q | q
      · exact q
      · rw [List.getElem?_eq_none (by rw [List.length_set]; exact q)] at h; cases h
    rw [List.getElem?_set_self this] at h
    cases h; exact .inl ⟨rfl, rfl⟩
  · rw [getElem?_set_ne' e] at h
    exact .inr ⟨fun z => e z.symm, h⟩
theorem owned_set {i : Nat} {s : Sl} {v : V} {p : Addr} (h : Owned (ρ.set i s) (σ.set i (some v)) p) : (∃ o, s = .own o ∧ v = .ref p) ∨ Owned ρ σ p := by
  obtain ⟨j, o, h1, h2⟩ := h
  rcases set_get? h1 with ⟨rfl, e⟩ | ⟨hj, e⟩
  · rcases set_get? h2 with ⟨_, e2⟩ | ⟨hj, _⟩
    · cases e2; exact .inl ⟨o, e.symm, rfl⟩
    · exact absurd rfl hj
  · rcases set_get? h2 with ⟨e2, _⟩ | ⟨_, e2⟩
    · exact absurd e2 hj
    · exact .inr ⟨j, o, e, e2⟩
/-- a slot is stored -/
theorem DRel.setSlot {r : R} {v : V} (i : Nat) (D : DRel c ρ n σ Hs H) (h : RRel c ρ σ Hs H r v) (hr : ∀ ds, r ≠ .tmp ds) : DRel c (ρ.set i (slOf r)) n (σ.set i (some v)) Hs H := by
  have li : ρ.length = σ.length := D.len
  refine ⟨D.sub, D.base, D.fix, D.old, D.bag, by rw [List.length_set, List.length_set]; exact D.len, fun j => ?_, fun j k o o' a j1 k1 j2 k2 => ?_⟩
  · by_cases e : i = j
    · subst e
      rcases Nat.lt_or_ge i ρ.length with q | q
      · rw [List.getElem?_set_self q, List.getElem?_set_self (li ▸ q)]
        cases r with
        | dat d => exact ⟨v, rfl, h⟩
        | own o => obtain ⟨a, rfl, h1, _⟩ := h; exact ⟨a, rfl, h1⟩
        | raw d => cases h; rfl
        | bag => obtain ⟨b, e1, rfl⟩ := h; exact ⟨b, e1, rfl⟩
        | tmp d => exact absurd rfl (hr d)
      · rw [List.getElem?_eq_none (by rw [List.length_set]; exact q)]
        trivial
    · rw [getElem?_set_ne' e, getElem?_set_ne' e]
      exact D.slot j
  · have key : ∀ (j : Nat) (o : Own), (ρ.set i (slOf r))[j]? = some (.own o) → (σ.set i (some v))[j]? = some (some (.ref a)) → (j = i ∧ ∃ o, r = .own o ∧ v = .ref a) ∨ (j ≠ i ∧ ρ[j]? = some (.own o) ∧ σ[j]? = some (some (.ref a))) := by
      intro j o h1 h2
      rcases set_get? h1 with ⟨e1, e2⟩ | ⟨e1, e2⟩
      · rcases set_get? h2 with ⟨_, e3⟩ | ⟨e3, _⟩
        · cases e3
          cases r with
          | own o' => exact .inl ⟨e1, o', rfl, rfl⟩
          | dat d => cases e2
          | tmp d => cases e2
          | raw d => cases e2
          | bag => cases e2
        · exact absurd e1 e3
      · rcases set_get? h2 with ⟨e3, _⟩ | ⟨_, e3⟩
        · exact absurd e3 e1
        · exact .inr ⟨e1, e2, e3⟩
    have no : ∀ (o : Own) (j : Nat) (o' : Own), r = .own o → v = .ref a → ρ[j]? = some (.own o') → σ[j]? = some (some (.ref a)) → False := by
      intro o j o' e1 e2 e3 e4
      subst e1
      obtain ⟨b, e, _, hn⟩ := h
      rw [e2] at e; cases e
      exact hn ⟨j, o', e3, e4⟩
    rcases key j o j1 j2 with ⟨e1, o1, e2, e3⟩ | ⟨e1, e2, e3⟩
    · rcases key k o' k1 k2 with ⟨f1, _⟩ | ⟨f1, f2, f3⟩
      · rw [e1, f1]
      · exact (no o1 k _ e2 e3 f2 f3).elim
    · rcases key k o' k1 k2 with ⟨f1, o1, f2, f3⟩ | ⟨f1, f2, f3⟩
      · exact (no o1 j _ f2 f3 e2 e3).elim
      · exact D.dist j k o o' a e2 f2 e3 f3
theorem SameBut.refl {vs : List Nat} : SameBut vs σ σ := ⟨rfl, fun _ _ => rfl⟩
theorem SameBut.trans {vs ws : List Nat} {σ' σ'' : SV} (a : SameBut vs σ σ') (b : SameBut ws σ' σ'') : SameBut (vs ++ ws) σ σ'' :=
  ⟨b.1.trans a.1, fun j hj => (b.2 j fun h => hj (List.mem_append_right _ h)).trans (a.2 j fun h => hj (List.mem_append_left _ h))⟩
end
def gdName (i : Nat) : TGD := fun d ρ Q => Q (ρ.set i (.dat d))
def gdNil : TGsD := fun ds ρ Q => match ds with | [] => Q ρ | _ => False
def gdCons (g : TGD) (gs : TGsD) : TGsD := fun ds ρ Q => match ds with | d :: r => g d ρ fun ρ' => gs r ρ' Q | _ => False
def gdTup (gs : TGsD) (n : Nat) : TGD := fun d ρ Q => match d with | .tuple ds => ds.length = n ∧ gs ds ρ Q | _ => False
section
variable {X : Cx} {pos : Pos} {e : Expr} {es : List Expr} {g : TGD} {gs : TGsD} {vs ws : List Nat}
theorem fg_name {x : Str} (i : Nat) (hN : X.N.Nodup) (hi : X.N[i]? = some x := by rfl) (hx : Loc X.env.scope x := by first | exact .inl rfl | exact .inr rfl) (hf : X.fn x = true ∨ X.env.scope.names.lookup x = some .local := by first | exact .inl rfl | exact .inr rfl) :
    FG false X (.Name x pos) (gdName i) [i] := by
  refine ⟨fun d ρ Q Q' m h => m _ h, pg_weak (pg_name hN hi hx hf) ?_⟩
  rintro v σ H Q ⟨c, ρ, n, Hs, d, D, h | ⟨w, _⟩, q⟩
  case inr => cases w
  refine q _ (DRel.setSlot (r := .dat d) i D h (fun _ z => nomatch z)) ⟨List.length_set, fun j hj => getElem?_set_ne' ?_⟩ fun p hp => ?_
  · exact fun z => hj (by simp [z])
  · rcases owned_set hp with ⟨o, e, _⟩ | hp
    · cases e
    · exact hp
theorem fgs_nil : FGs X [] gdNil [] := by
  refine ⟨fun d ρ Q Q' m h => ?_, pgs_weak pgs_nil ?_⟩
  · unfold gdNil at h ⊢; split at h
    · exact m _ h
    · exact h.elim
  · rintro v σ H Q ⟨c, ρ, n, Hs, ds, D, h, q⟩
    cases h with
    | nil => exact ⟨rfl, q _ D SameBut.refl fun _ h => h⟩
    | cons _ _ => exact q.elim
theorem fgs_cons (h1 : FG false X e g vs) (h2 : FGs X es gs ws) (hs : (assignEach (e :: es) X.env).map (·.2) = assign e X.env :: (assignEach es X.env).map (·.2) := by rfl) : FGs X (e :: es) (gdCons g gs) (vs ++ ws) := by
  refine ⟨fun d ρ Q Q' m h => ?_, pgs_weak (pgs_cons h1.pg h2.pgs hs) ?_⟩
  · unfold gdCons at h ⊢; split at h
    · exact h1.mono _ _ _ _ (fun ρ' h => h2.mono _ _ _ _ m h) h
    · exact h.elim
  · rintro v σ H Q ⟨c, ρ, n, Hs, ds, D, h, q⟩
    cases h with
    | nil => exact q.elim
    | cons hd tl =>
      refine ⟨_, _, rfl, c, ρ, n, Hs, _, D, .inl hd, h1.mono _ _ _ _ (fun ρ' q σ' D' sb nw => ⟨c, ρ', n, Hs, _, D', tl, h2.mono _ _ _ _ (fun ρ'' q σ'' D'' sb' nw' => q _ D'' (sb.trans sb') fun p h => nw p (nw' p h)) q⟩) q⟩
theorem fg_tup {w : Bool} {k : Nat} {n : Nat} (hc : X.calm = true) (h : FGs X es gs vs) (hn : (assignEach es X.env).length = n := by rfl) (hst : (assignEach es X.env).findIdx? (·.1) = none := by rfl) : FG w X (.Tuple es k pos) (gdTup gs n) vs := by
  refine ⟨fun d ρ Q Q' m q => ?_, pg_weak (pg_tup hc h.pgs hn hst) ?_⟩
  · unfold gdTup at q ⊢; split at q
    · exact ⟨q.1, h.mono _ _ _ _ m q.2⟩
    · exact q.elim
  · rintro v σ H Q ⟨c, ρ, n, Hs, d, D, hd, q⟩
    unfold gdTup at q; split at q
    · rcases hd with hd | ⟨_, a, xs, ds, rfl, e1, q1, e⟩
      · cases hd with
        | tup e1 q1 => exact ⟨_, _, rfl, (e1.mono D.sub).sq, by rw [dpAll_len q1]; exact q.1, c, ρ, _, Hs, _, D, q1, q.2⟩
      · cases e
        exact ⟨_, _, rfl, SqT.of e1, by rw [dpAll_len q1]; exact q.1, c, ρ, _, Hs, _, D, q1, q.2⟩
    · exact q.elim
end
end DL

namespace DL
open PySem PySem.Spec PyProof.Rows L2
/-! ### what is walked -/
def Stab (b : Bool) (c : Bs) (Hs H Hs1 H1 : Hp) : Prop := Same Hs Hs1 ∧ Same Hs1 H1 ∧ (b = true → ∀ p o, c.B ≠ some p → H p = some o → H1 p = some o)
structure WalkD (b w : Bool) (c : Bs) (J : It) (ds : List PyData) (Hs H : Hp) : Prop where
  go : ∀ i Hs1 H1, i < ds.length → Stab b c Hs H Hs1 H1 → J.go i H1
  stop : ∀ Hs1 H1, Stab b c Hs H Hs1 H1 → J.stop ds.length H1
  yld : ∀ i Hs1 H1 x H', i < ds.length → Stab b c Hs H Hs1 H1 → J.yld i H1 x H' → ∃ d, ds[i]? = some d ∧
    ((H' = H1 ∧ Dq Hs1 x d) ∨ w = true ∧ ∃ T xs es, x = .ref T ∧ H1 T = none ∧ H' = upd H1 T (.tup xs) ∧ DqAll Hs1 xs es ∧ d = .tuple es)
abbrev TID := DEnv → Nat → (List PyData → DEnv → Nat → Prop) → Prop
def MonoI (f : TID) : Prop := ∀ ρ n (Q Q' : List PyData → DEnv → Nat → Prop), (∀ r ρ' n', Q r ρ' n' → Q' r ρ' n') → f ρ n Q → f ρ n Q'
def teI (b w : Bool) (f : TID) : TI := fun σ H Rr => ∃ c ρ n Hs, DRel c ρ n σ Hs H ∧
  f ρ n (fun ds ρ' n' => ∀ J Hs' H', DRel c ρ' n' σ Hs' H' → Ext c σ ρ Hs H ρ' Hs' H' → WalkD b w c J ds Hs' H' → Rr J H')
structure FI (b w : Bool) (X : Cx) (tg e : Expr) (f : TID) : Prop where
  mono : MonoI f
  pi : PI X tg e (teI b w f)
theorem pi_weak {X : Cx} {tg e : Expr} {t t' : TI} (h : PI X tg e t) (w : ∀ σ H Q, t' σ H Q → t σ H Q) : PI X tg e t' := ⟨fun pins s σ H R I q => h.run pins s σ H R I (w _ _ _ q)⟩
/-- a list: looked at (b), or shared -/
def lkL (b : Bool) (r : R) (k : List PyData → Prop) : Prop := match b with
  | true => asL r k
  | false => toN r fun r => match r with | .dat (.list ds) => k ds | _ => False
def dIl (b : Bool) (f : TD) : TID := fun ρ n Q => f ρ n fun r ρ' n' => lkL b r fun ds => Q ds ρ' n'
def dIt (f : TD) : TID := fun ρ n Q => f ρ n fun r ρ' n' => asT r fun ds => Q ds ρ' n'
theorem lkL_mono {b : Bool} {r : R} {k k' : List PyData → Prop} (m : ∀ x, k x → k' x) (h : lkL b r k) : lkL b r k' := by
  cases b
  · have h1 : toN r (fun r => match r with | .dat (.list ds) => k ds | _ => False) := h
    have : toN r (fun r => match r with | .dat (.list ds) => k' ds | _ => False) := toN_mono (fun r h => by revert h; split; exact m _; exact id) h1
    exact this
  · exact asL_mono m h
section
variable {c : Bs} {ρ ρ' : DEnv} {n n' : Nat} {σ : SV} {Hs H Hs' H' : Hp}
theorem lkL_at {b : Bool} {r : R} {v : V} {k : List PyData → Prop} (E : Ext c σ ρ Hs H ρ' Hs' H') (D : DRel c ρ' n σ Hs' H') (h : RRel c ρ' σ Hs' H' r v) (fr : Fresh H r v) (q : lkL b r k) :
    ∃ a vs ds Hs2, v = .ref a ∧ DRel c ρ' n σ Hs2 H' ∧ Ext c σ ρ Hs H ρ' Hs2 H' ∧ DqAll Hs2 vs ds ∧ k ds ∧ (∀ Hs1 H1, Stab b c Hs2 H' Hs1 H1 → H1 a = some (.lst vs)) := by
  cases b with
  | true =>
    obtain ⟨a, vs, ds, rfl, e1, q1, q2⟩ := asL_at h.obs D.sub q
    refine ⟨a, vs, ds, Hs', rfl, D, E, q1, q2, fun Hs1 H1 st => ?_⟩
    by_cases hb : c.B = some a
    · exfalso
      obtain ⟨⟨x, y, z, q3, _⟩, q4⟩ := D.bag a hb
      have o := h.obs
      cases r with
      | dat d =>
        cases o with
        | lst e _ => rw [q4] at e; cases e
        | tup e _ => exact absurd q4 e.nn
      | tmp d => obtain ⟨a', _, e, _, _, z⟩ := o; cases e; exact z hb
      | own d => obtain ⟨a', _, e, _, _, z⟩ := o; cases e; exact z hb
      | raw d => exact q.elim
      | bag => exact q.elim
    · exact st.2.2 rfl a _ hb e1
  | false =>
    have q0 : toN r (fun r => match r with | .dat (.list ds) => k ds | _ => False) := q
    obtain ⟨r', Hs2, D2, R2, no, q2, E2⟩ := toN_ext E D h fr q0
    split at q2
    · cases R2 with
      | lst e q1 => exact ⟨_, _, _, Hs2, rfl, D2, E2, q1, q2, fun Hs1 H1 st => st.2.1 _ _ (st.1 _ _ e)⟩
    · exact q2.elim
end
section
variable {X : Cx} {tg : Expr} {pos p : Pos} {e e2 e3 : Expr} {es : List Expr} {f : TD} {t : TAD} {b : Bool}
theorem fi_list (h : FE X e f) : FI b false X tg e (dIl b f) := by
  refine ⟨fun ρ n Q Q' m q => h.mono _ _ _ _ (fun r ρ1 n1 q => lkL_mono (fun _ q => m _ _ _ q) q) q, pi_weak (pi_list h.pe) ?_⟩
  rintro σ H Rr ⟨c, ρ, n, Hs, D, q⟩
  refine ⟨c, ρ, n, Hs, D, h.mono _ _ _ _ (fun r ρ1 n1 q v Hs1 H1 D1 R1 E1 F1 => ?_) q⟩
  obtain ⟨a, vs, ds, Hs2, rfl, D2, E2, q1, q2, st⟩ := lkL_at E1 D1 R1 F1 q
  have at1 := st Hs2 H1 ⟨fun _ _ h => h, D2.sub, fun _ _ _ _ h => h⟩
  refine ⟨a, rfl, ⟨vs, SqL.of at1⟩, q2 _ _ _ D2 E2 ⟨fun i Hs3 H3 hi s => ?_, fun Hs3 H3 s => ?_, fun i Hs3 H3 x H' hi s y => ?_⟩⟩
  · obtain ⟨d, hd⟩ : ∃ d, ds[i]? = some d := ⟨ds[i], List.getElem?_eq_getElem hi⟩
    obtain ⟨v, hv, _⟩ := dpAll_get q1 hd
    exact ⟨vs, v, SqL.of (st _ _ s), hv⟩
  · exact ⟨vs, SqL.of (st _ _ s), by rw [dpAll_len q1]; exact Nat.le_refl _⟩
  · obtain ⟨rfl, y⟩ := y
    obtain ⟨d, hd⟩ : ∃ d, ds[i]? = some d := ⟨ds[i], List.getElem?_eq_getElem hi⟩
    obtain ⟨v, hv, hq⟩ := dpAll_get q1 hd
    have := y vs (SqL.of (st _ _ s))
    rw [hv] at this; cases this
    exact ⟨d, hd, .inl ⟨rfl, dp_mono s.1 hq⟩⟩
theorem fi_tup (h : FE X e f) : FI b false X tg e (dIt f) := by
  refine ⟨fun ρ n Q Q' m q => h.mono _ _ _ _ (fun r ρ1 n1 q => asT_mono (fun _ q => m _ _ _ q) q) q, pi_weak (pi_tup h.pe) ?_⟩
  rintro σ H Rr ⟨c, ρ, n, Hs, D, q⟩
  refine ⟨c, ρ, n, Hs, D, h.mono _ _ _ _ (fun r ρ1 n1 q v Hs1 H1 D1 R1 E1 F1 => ?_) q⟩
  obtain ⟨ds, rfl, q⟩ := asT_inv q
  cases R1 with
  | tup e1 q1 =>
    rename_i a vs
    have st : ∀ Hs2 H2, Stab b c Hs1 H1 Hs2 H2 → Tup H2 a vs := fun Hs2 H2 s => (e1.mono s.1).mono s.2.1
    refine ⟨a, rfl, ⟨vs, (e1.mono D1.sub).sq⟩, q _ _ _ D1 E1 ⟨fun i Hs3 H3 hi s => ?_, fun Hs3 H3 s => ?_, fun i Hs3 H3 x H' hi s y => ?_⟩⟩
    · obtain ⟨d, hd⟩ : ∃ d, ds[i]? = some d := ⟨ds[i], List.getElem?_eq_getElem hi⟩
      obtain ⟨v, hv, _⟩ := dpAll_get q1 hd
      exact ⟨vs, v, (st _ _ s).sq, hv⟩
    · exact ⟨vs, (st _ _ s).sq, by rw [dpAll_len q1]; exact Nat.le_refl _⟩
    · obtain ⟨rfl, y⟩ := y
      obtain ⟨d, hd⟩ : ∃ d, ds[i]? = some d := ⟨ds[i], List.getElem?_eq_getElem hi⟩
      obtain ⟨v, hv, hq⟩ := dpAll_get q1 hd
      have := y vs ((st _ _ s).sq)
      rw [hv] at this; cases this
      exact ⟨d, hd, .inl ⟨rfl, dp_mono s.1 hq⟩⟩
/-- lo, lo + c, .. -/
def rngC (lo c : Int) (n : Nat) : List PyData := (List.range n).map fun (i : Nat) => .int (lo + (i : Int) * c)
def rng (lo hi : Int) : List PyData := (List.range (hi - lo).toNat).map fun (i : Nat) => .int (lo + (i : Int))
theorem walkD_range {c : Bs} {Hs H : Hp} {lo : Int} {n : Nat} : WalkD b false c (Itr lo n) ((List.range n).map fun (i : Nat) => .int (lo + (i : Int))) Hs H := by
  have hl : ((List.range n).map fun (i : Nat) => PyData.int (lo + (i : Int))).length = n := by simp
  refine ⟨fun i _ _ hi _ => by rw [hl] at hi; exact hi, fun _ _ _ => by rw [hl]; exact Nat.le_refl _, fun i Hs1 H1 x H' hi s y => ?_⟩
  rw [hl] at hi
  obtain ⟨rfl, rfl⟩ := y
  exact ⟨.int (lo + (i : Int)), by simp [hi], .inl ⟨rfl, .int _⟩⟩
theorem walkD_rangeC {c : Bs} {Hs H : Hp} {lo k : Int} {n : Nat} : WalkD b false c (Itc lo k n) (rngC lo k n) Hs H := by
  have hl : (rngC lo k n).length = n := by simp [rngC]
  refine ⟨fun i _ _ hi _ => by rw [hl] at hi; exact hi, fun _ _ _ => by rw [hl]; exact Nat.le_refl _, fun i Hs1 H1 x H' hi s y => ?_⟩
  rw [hl] at hi
  obtain ⟨rfl, rfl⟩ := y
  exact ⟨.int (lo + (i : Int) * k), by simp [rngC, hi], .inl ⟨rfl, .int _⟩⟩
def small (i : Int) : Prop := -(2 ^ 62) ≤ i ∧ i < 2 ^ 62
def dR1 (t : TAD) : TID := fun ρ n Q => t ρ n fun rs ρ' n' => match rs with | [r] => asI r fun j => small j ∧ Q (rng 0 j) ρ' n' | _ => False
def dR2 (t : TAD) : TID := fun ρ n Q => t ρ n fun rs ρ' n' => match rs with | [r, r'] => asI r fun i => asI r' fun j => small i ∧ small j ∧ Q (rng i j) ρ' n' | _ => False
def dR3 (t : TAD) : TID := fun ρ n Q => t ρ n fun rs ρ' n' => match rs with | [r, r', r''] => asI r fun i => asI r' fun j => asI r'' fun k => k = -1 ∧ small i ∧ small j ∧ Q (rngC i (-1) (i - j).toNat) ρ' n' | _ => False
theorem fi_range1 (hm : X.mg "range" = none) (h : FA X [e] t) (hg : Gl X "range" := by rfl) (hs : starEach [e] X.env = [(false, eval e X.env)] := by rfl) : FI b false X tg (.Call (.Name "range" p) [e] [] pos) (dR1 t) := by
  refine ⟨fun ρ n Q Q' m q => h.mono _ _ _ _ (fun rs ρ1 n1 q => ?_) q, pi_weak (pi_range1 hg hm h.pa hs) ?_⟩
  · revert q; split
    · exact asI_mono fun _ q => ⟨q.1, m _ _ _ q.2⟩
    · exact id
  · rintro σ H Rr ⟨c, ρ, n, Hs, D, q⟩
    refine ⟨c, ρ, n, Hs, D, h.mono _ _ _ _ (fun rs ρ1 n1 q vs Hs1 H1 D1 R1 E1 od fr => ?_) q⟩
    split at q
    · obtain ⟨v, rfl, R2⟩ := paired1 R1
      obtain ⟨j, rfl, sm, q2⟩ := asI_inv q
      cases R2
      refine ⟨j, rfl, sm.1, sm.2, q2 _ _ _ D1 E1 ?_⟩
      have := walkD_range (b := b) (c := c) (Hs := Hs1) (H := H1) (lo := 0) (n := j.toNat)
      unfold rng
      rw [Int.sub_zero]; exact this
    · exact q.elim
theorem fi_range2 (hm : X.mg "range" = none) (h : FA X [e, e2] t) (hg : Gl X "range" := by rfl) (hs : starEach [e, e2] X.env = [(false, eval e X.env), (false, eval e2 X.env)] := by rfl) (hs2 : starEach [e2] X.env = [(false, eval e2 X.env)] := by rfl) :
    FI b false X tg (.Call (.Name "range" p) [e, e2] [] pos) (dR2 t) := by
  refine ⟨fun ρ n Q Q' m q => h.mono _ _ _ _ (fun rs ρ1 n1 q => ?_) q, pi_weak (pi_range2 hg hm h.pa hs hs2) ?_⟩
  · revert q; split
    · exact asI_mono fun _ q => asI_mono (fun _ q => ⟨q.1, q.2.1, m _ _ _ q.2.2⟩) q
    · exact id
  · rintro σ H Rr ⟨c, ρ, n, Hs, D, q⟩
    refine ⟨c, ρ, n, Hs, D, h.mono _ _ _ _ (fun rs ρ1 n1 q vs Hs1 H1 D1 R1 E1 od fr => ?_) q⟩
    split at q
    · obtain ⟨v, v', rfl, R2, R3⟩ := paired2 R1
      obtain ⟨i, rfl, q2⟩ := asI_inv q
      obtain ⟨j, rfl, sm, sm', q3⟩ := asI_inv q2
      cases R2; cases R3
      exact ⟨i, j, rfl, ⟨sm.1, sm.2, sm'.1, sm'.2⟩, q3 _ _ _ D1 E1 walkD_range⟩
    · exact q.elim
theorem paired3 {α β : Type} {G : α → β → Prop} {a a' a'' : α} {bs : List β} (h : Paired G [a, a', a''] bs) : ∃ b b' b'', bs = [b, b', b''] ∧ G a b ∧ G a' b' ∧ G a'' b'' := by
  cases h with | cons h t => cases t with | cons h' t => cases t with | cons h'' t => cases t; exact ⟨_, _, _, rfl, h, h', h''⟩
theorem fi_range3 (hm : X.mg "range" = none) (h : FA X [e, e2, e3] t) (hg : Gl X "range" := by rfl) (hs : starEach [e, e2, e3] X.env = (false, eval e X.env) :: starEach [e2, e3] X.env := by rfl) (hpl : (backTo pos (starEach [e2, e3] X.env)).any (·.1) = false := by rfl) :
    FI b false X tg (.Call (.Name "range" p) [e, e2, e3] [] pos) (dR3 t) := by
  refine ⟨fun ρ n Q Q' m q => h.mono _ _ _ _ (fun rs ρ1 n1 q => ?_) q, pi_weak (pi_range3 hg hm h.pa hs hpl) ?_⟩
  · revert q; split
    · exact asI_mono fun _ q => asI_mono (fun _ q => asI_mono (fun _ q => ⟨q.1, q.2.1, q.2.2.1, m _ _ _ q.2.2.2⟩) q) q
    · exact id
  · rintro σ H Rr ⟨c, ρ, n, Hs, D, q⟩
    refine ⟨c, ρ, n, Hs, D, h.mono _ _ _ _ (fun rs ρ1 n1 q vs Hs1 H1 D1 R1 E1 od fr => ?_) q⟩
    split at q
    · obtain ⟨v, v', v'', rfl, R2, R3, R4⟩ := paired3 R1
      obtain ⟨i, rfl, q2⟩ := asI_inv q
      obtain ⟨j, rfl, q3⟩ := asI_inv q2
      obtain ⟨k, rfl, rfl, sm, sm', q4⟩ := asI_inv q3
      cases R2; cases R3; cases R4
      exact ⟨i, j, -1, _, rfl, RgC.neg sm.1 sm.2 sm'.1 sm'.2, q4 _ _ _ D1 E1 walkD_rangeC⟩
    · exact q.elim
/-- enumerate(xs), zip(xs, ys): new pairs -/
def enumD (ds : List PyData) : List PyData := ds.zipIdx.map fun x => .tuple [.int (x.2 : Int), x.1]
def zipD (ds es : List PyData) : List PyData := (ds.zip es).map fun x => .tuple [x.1, x.2]
def dEn (b : Bool) (f : TD) : TID := fun ρ n Q => f ρ n fun r ρ' n' => lkL b r fun ds => Q (enumD ds) ρ' n'
theorem one_pa {σ : SV} {H : Hp} {f : TD} {Rr : List V → Hp → Prop} (hf : MonoE f) (h : teE f σ H fun v H' => Rr [v] H') : teA (dCons f dNil) σ H Rr := by
  obtain ⟨c, ρ, n, Hs, D, q⟩ := h
  refine ⟨c, ρ, n, Hs, D, hf _ _ _ _ (fun r ρ1 n1 q vs Hs1 H1 D1 R1 E1 od fr => ?_) q⟩
  obtain ⟨v, rfl, R2⟩ := paired1 R1
  refine q v _ _ D1 R2 E1 ?_
  cases r with
  | own o => exact fun a e => fr 0 o a rfl (by rw [e]; rfl)
  | _ => trivial
theorem fi_enum {elts : List Expr} {kk : Nat} {tpos : Pos} (hm : X.mg "enumerate" = none) (h : FE X e f) (hg : Gl X "enumerate" := by rfl) (hs : starEach [e] X.env = [(false, eval e X.env)] := by rfl) :
    FI b true X (.Tuple elts kk tpos) (.Call (.Name "enumerate" p) [e] [] pos) (dEn b f) := by
  refine ⟨fun ρ n Q Q' m q => h.mono _ _ _ _ (fun r ρ1 n1 q => lkL_mono (fun _ q => m _ _ _ q) q) q, pi_weak (pi_enum hg hm (fa_cons h fa_nil (hs := hs)).pa hs) ?_⟩
  rintro σ H Rr ⟨c, ρ, n, Hs, D, q⟩
  refine one_pa h.mono ⟨c, ρ, n, Hs, D, h.mono _ _ _ _ (fun r ρ1 n1 q v Hs1 H1 D1 R1 E1 F1 => ?_) q⟩
  obtain ⟨a, vs, ds, Hs2, rfl, D2, E2, q1, q2, st⟩ := lkL_at E1 D1 R1 F1 q
  have at1 := st Hs2 H1 ⟨fun _ _ h => h, D2.sub, fun _ _ _ _ h => h⟩
  have hl : (enumD ds).length = ds.length := by simp [enumD]
  refine ⟨a, vs, rfl, SqL.of at1, q2 _ _ _ D2 E2 ⟨fun i Hs3 H3 hi s => ?_, fun Hs3 H3 s => ?_, fun i Hs3 H3 x H' hi s y => ?_⟩⟩
  · rw [hl] at hi
    obtain ⟨d, hd⟩ : ∃ d, ds[i]? = some d := ⟨ds[i], List.getElem?_eq_getElem hi⟩
    obtain ⟨v, hv, _⟩ := dpAll_get q1 hd
    exact ⟨vs, v, SqL.of (st _ _ s), hv⟩
  · exact ⟨vs, SqL.of (st _ _ s), by rw [dpAll_len q1, hl]; exact Nat.le_refl _⟩
  · rw [hl] at hi
    obtain ⟨T, y0, rfl, hT, rfl, y⟩ := y
    obtain ⟨d, hd⟩ : ∃ d, ds[i]? = some d := ⟨ds[i], List.getElem?_eq_getElem hi⟩
    obtain ⟨v, hv, hq⟩ := dpAll_get q1 hd
    have := y vs (SqL.of (st _ _ s))
    rw [hv] at this; cases this
    refine ⟨.tuple [.int (i : Int), d], ?_, .inr ⟨rfl, T, _, _, rfl, hT, rfl, .cons (.int _) (.cons (dp_mono s.1 hq) .nil), rfl⟩⟩
    simp [enumD, List.getElem?_zipIdx, hd]
def dZi (t : TAD) : TID := fun ρ n Q => t ρ n fun rs ρ' n' => match rs with
  | [.dat (.list ds), .dat (.list es)] => Q (zipD ds es) ρ' n'
  | [.dat (.tuple ds), .dat (.tuple es)] => Q (zipD ds es) ρ' n'
  | _ => False
theorem zipD_get {ds es : List PyData} {i : Nat} {d e : PyData} (h : ds[i]? = some d) (h' : es[i]? = some e) : (zipD ds es)[i]? = some (.tuple [d, e]) := by
  unfold zipD
  rw [List.getElem?_map, (List.getElem?_zip_eq_some (z := (d, e))).mpr ⟨h, h'⟩]
  rfl
theorem fi_zip {elts : List Expr} {kk : Nat} {tpos : Pos} (hm : X.mg "zip" = none) (h : FA X [e, e2] t) (hg : Gl X "zip" := by rfl) (hs : starEach [e, e2] X.env = (false, eval e X.env) :: starEach [e2] X.env := by rfl) (hpl : (backTo pos (starEach [e2] X.env)).any (·.1) = false := by rfl) :
    FI b true X (.Tuple elts kk tpos) (.Call (.Name "zip" p) [e, e2] [] pos) (dZi t) := by
  refine ⟨fun ρ n Q Q' m q => h.mono _ _ _ _ (fun rs ρ1 n1 q => ?_) q, pi_weak (RZ.pi_zipA hg hm h.pa hs hpl) ?_⟩
  · revert q; split
    · exact m _ _ _
    · exact m _ _ _
    · exact id
  · rintro σ H Rr ⟨c, ρ, n, Hs, D, q⟩
    refine ⟨c, ρ, n, Hs, D, h.mono _ _ _ _ (fun rs ρ1 n1 q vs Hs1 H1 D1 R1 E1 od fr => ?_) q⟩
    split at q
    · obtain ⟨v, v', rfl, R2, R3⟩ := paired2 R1
      cases R2 with
      | lst e1 q1 =>
        cases R3 with
        | lst e2 q2 =>
          rename_i ds es a xs a' ys
          have hl : (zipD ds es).length = min ds.length es.length := by simp [zipD]
          refine ⟨a, a', xs, ys, rfl, .inl ⟨SqL.of (D1.sub _ _ e1), SqL.of (D1.sub _ _ e2), q _ _ _ D1 E1 ⟨fun i Hs3 H3 hi s => ?_, fun Hs3 H3 s => ?_, fun i Hs3 H3 x H' hi s y => ?_⟩⟩⟩
          · rw [hl] at hi
            obtain ⟨d, hd⟩ : ∃ d, ds[i]? = some d := ⟨ds[i], List.getElem?_eq_getElem (by omega)⟩
            obtain ⟨d', hd'⟩ : ∃ d, es[i]? = some d := ⟨es[i], List.getElem?_eq_getElem (by omega)⟩
            obtain ⟨w, hw, _⟩ := dpAll_get q1 hd
            obtain ⟨w', hw', _⟩ := dpAll_get q2 hd'
            exact ⟨xs, ys, w, w', SqL.of (s.2.1 _ _ (s.1 _ _ e1)), SqL.of (s.2.1 _ _ (s.1 _ _ e2)), hw, hw'⟩
          · refine ⟨xs, ys, SqL.of (s.2.1 _ _ (s.1 _ _ e1)), SqL.of (s.2.1 _ _ (s.1 _ _ e2)), ?_⟩
            rw [dpAll_len q1, dpAll_len q2, hl]; omega
          · rw [hl] at hi
            obtain ⟨d, hd⟩ : ∃ d, ds[i]? = some d := ⟨ds[i], List.getElem?_eq_getElem (by omega)⟩
            obtain ⟨d', hd'⟩ : ∃ d, es[i]? = some d := ⟨es[i], List.getElem?_eq_getElem (by omega)⟩
            obtain ⟨w, hw, qw⟩ := dpAll_get q1 hd
            obtain ⟨w', hw', qw'⟩ := dpAll_get q2 hd'
            obtain ⟨T, y1, y2, rfl, hT, rfl, f1, f2⟩ := y
            have g1 := f1 xs (SqL.of (s.2.1 _ _ (s.1 _ _ e1)))
            have g2 := f2 ys (SqL.of (s.2.1 _ _ (s.1 _ _ e2)))
            rw [hw] at g1; cases g1
            rw [hw'] at g2; cases g2
            exact ⟨_, zipD_get hd hd', .inr ⟨rfl, T, _, _, rfl, hT, rfl, .cons (dp_mono s.1 qw) (.cons (dp_mono s.1 qw') .nil), rfl⟩⟩
    · obtain ⟨v, v', rfl, R2, R3⟩ := paired2 R1
      cases R2 with
      | tup e1 q1 =>
        cases R3 with
        | tup e2 q2 =>
          rename_i ds es a xs a' ys
          have hl : (zipD ds es).length = min ds.length es.length := by simp [zipD]
          refine ⟨a, a', xs, ys, rfl, .inr ⟨(e1.mono D1.sub).sq, (e2.mono D1.sub).sq, q _ _ _ D1 E1 ⟨fun i Hs3 H3 hi s => ?_, fun Hs3 H3 s => ?_, fun i Hs3 H3 x H' hi s y => ?_⟩⟩⟩
          · rw [hl] at hi
            obtain ⟨d, hd⟩ : ∃ d, ds[i]? = some d := ⟨ds[i], List.getElem?_eq_getElem (by omega)⟩
            obtain ⟨d', hd'⟩ : ∃ d, es[i]? = some d := ⟨es[i], List.getElem?_eq_getElem (by omega)⟩
            obtain ⟨w, hw, _⟩ := dpAll_get q1 hd
            obtain ⟨w', hw', _⟩ := dpAll_get q2 hd'
            exact ⟨xs, ys, w, w', ((e1.mono s.1).mono s.2.1).sq, ((e2.mono s.1).mono s.2.1).sq, hw, hw'⟩
          · refine ⟨xs, ys, ((e1.mono s.1).mono s.2.1).sq, ((e2.mono s.1).mono s.2.1).sq, ?_⟩
            rw [dpAll_len q1, dpAll_len q2, hl]; omega
          · rw [hl] at hi
            obtain ⟨d, hd⟩ : ∃ d, ds[i]? = some d := ⟨ds[i], List.getElem?_eq_getElem (by omega)⟩
            obtain ⟨d', hd'⟩ : ∃ d, es[i]? = some d := ⟨es[i], List.getElem?_eq_getElem (by omega)⟩
            obtain ⟨w, hw, qw⟩ := dpAll_get q1 hd
            obtain ⟨w', hw', qw'⟩ := dpAll_get q2 hd'
            obtain ⟨T, y1, y2, rfl, hT, rfl, f1, f2⟩ := y
            have g1 := f1 xs (((e1.mono s.1).mono s.2.1).sq)
            have g2 := f2 ys (((e2.mono s.1).mono s.2.1).sq)
            rw [hw] at g1; cases g1
            rw [hw'] at g2; cases g2
            exact ⟨_, zipD_get hd hd', .inr ⟨rfl, T, _, _, rfl, hT, rfl, .cons (dp_mono s.1 qw) (.cons (dp_mono s.1 qw') .nil), rfl⟩⟩
    · exact q.elim
end
/-! ### comprehensions -/
def wipeD (ρ : DEnv) : List Nat → DEnv
  | [] => ρ
  | v :: vs => (wipeD ρ vs).set v .un
def dLcGo (g : TGD) (tt : TTD) (te : TD) (vs : List Nat) : List PyData → List PyData → DEnv → Nat → (List PyData → Nat → Prop) → Prop
  | [], acc, _, n, k => k acc n
  | d :: r, acc, ρ, n, k => g d (wipeD ρ vs) fun ρ2 => tt ρ2 n fun b ρ3 n3 => if b = true then te ρ3 n3 fun rr ρ4 n4 => toN rr fun r' => match r' with
      | .dat d' => wipeD ρ4 vs = wipeD ρ vs ∧ dLcGo g tt te vs r (acc ++ [d']) ρ n4 k
      | _ => False
    else wipeD ρ3 vs = wipeD ρ vs ∧ dLcGo g tt te vs r acc ρ n3 k
def dLc (fi : TID) (g : TGD) (tt : TTD) (te : TD) (vs : List Nat) : TD := fun ρ n Q => fi ρ n fun ds ρ1 n1 => ds.length ≤ 1000000 ∧ dLcGo g tt te vs ds [] ρ1 n1 fun out n2 => Q (.own (.lst out)) ρ1 n2
theorem wipeD_len (ρ : DEnv) : ∀ vs, (wipeD ρ vs).length = ρ.length
  | [] => rfl
  | v :: vs => by unfold wipeD; rw [List.length_set]; exact wipeD_len ρ vs
theorem wipeD_get {ρ : DEnv} {i : Nat} {s : Sl} : ∀ {vs : List Nat}, (wipeD ρ vs)[i]? = some s → s ≠ .un → ρ[i]? = some s ∧ i ∉ vs
  | [], h, _ => ⟨h, fun z => by cases z⟩
  | v :: vs, h, hs => by
    unfold wipeD at h
    rcases set_get? h with ⟨_, e⟩ | ⟨e, h⟩
    · exact absurd e hs
    · obtain ⟨h1, h2⟩ := wipeD_get h hs
      exact ⟨h1, fun z => by rcases List.mem_cons.mp z with z | z; exact e z; exact h2 z⟩
theorem wipeD_out {ρ : DEnv} {i : Nat} : ∀ {vs : List Nat}, i ∉ vs → (wipeD ρ vs)[i]? = ρ[i]?
  | [], _ => rfl
  | v :: vs, h => by
    unfold wipeD
    rw [getElem?_set_ne' (fun z => h (by simp [z]))]
    exact wipeD_out fun z => h (List.mem_cons_of_mem _ z)
theorem wipeV_len (σ : SV) : ∀ vs : List Nat, (wipe σ vs).length = σ.length := wipe_length σ
theorem wipe_eq {σ σ' : SV} {vs : List Nat} (h : SameBut vs (wipe σ vs) σ') : wipe σ' vs = wipe σ vs := by
  apply List.ext_getElem?
  intro j
  by_cases hj : j ∈ vs
  · have a : ∀ (τ : SV) (ws : List Nat), j ∈ ws → (wipe τ ws)[j]? = if j < τ.length then some none else none := by
      intro τ ws
      induction ws with
      | nil => intro h; cases h
      | cons v r ih =>
        intro hm
        show ((wipe τ r).set v none)[j]? = _
        by_cases e : v = j
        · subst e
          rw [List.getElem?_set]
          simp only [if_true, wipe_length]
        · rw [getElem?_set_ne' e]
          exact ih (by rcases List.mem_cons.mp hm with z | z; exact absurd z.symm e; exact z)
    rw [a σ' vs hj, a σ vs hj, h.1, wipe_length]
  · rw [wipe_out hj, h.2 j hj]
section
variable {c : Bs} {ρ ρ' : DEnv} {n n' : Nat} {σ : SV} {Hs H Hs' H' : Hp}
/-- within a comprehension's block -/
theorem DRel.wipe (D : DRel c ρ n σ Hs H) (vs : List Nat) : DRel c (wipeD ρ vs) n (L2.wipe σ vs) Hs H := by
  refine ⟨D.sub, D.base, D.fix, D.old, D.bag, by rw [wipeD_len, wipe_length]; exact D.len, fun i => ?_, fun i j o o' a h1 h2 h3 h4 => ?_⟩
  · cases e : (wipeD ρ vs)[i]? with
    | none => trivial
    | some s =>
      by_cases hs : s = .un
      · subst hs; trivial
      · obtain ⟨h1, h2⟩ := wipeD_get e hs
        rw [wipe_out h2, ← h1]
        exact D.slot i
  · obtain ⟨g1, k1⟩ := wipeD_get h1 (fun z => nomatch z)
    obtain ⟨g2, k2⟩ := wipeD_get h2 (fun z => nomatch z)
    rw [wipe_out k1] at h3
    rw [wipe_out k2] at h4
    exact D.dist i j o o' a g1 g2 h3 h4
/-- back at the names as they were -/
theorem DRel.rebase {ρ2 : DEnv} {σ2 : SV} {n2 : Nat} (D : DRel c ρ n σ Hs H) (D' : DRel c ρ2 n2 σ2 Hs' H') (s1 : Same Hs Hs') (st : ∀ p o, c.B ≠ some p → H p = some o → H' p = some o) (ow : ∀ p, Owned ρ σ p → Hs' p = none) : DRel c ρ n2 σ Hs' H' := by
  refine ⟨D'.sub, D'.base, D'.fix, D'.old, D'.bag, D.len, fun i => ?_, D.dist⟩
  have q := D.slot i
  cases e : ρ[i]? with
  | none => trivial
  | some s =>
    rw [e] at q
    cases s with
    | un => trivial
    | dat d => obtain ⟨x, e, q⟩ := q; exact ⟨x, e, dp_mono s1 q⟩
    | own o =>
      obtain ⟨a, e2, ho, h1, h2, h3, h4, h5⟩ := q
      exact ⟨a, e2, ho, st _ _ h5 h1, ownRel_mono s1 h2, ow a ⟨i, o, e, e2⟩, h4, h5⟩
    | raw v => exact q
    | bag => exact q
end
section
variable {X : Cx} {pos : Pos} {elt tg iter : Expr} {ifs : List Expr} {scope : Scope} {own : List (Str × Nat)} {wf : Bool} {fi : TID} {g : TGD} {tt : TTD} {te : TD} {vs : List Nat}
def dYes : TTD := fun ρ n Q => Q true ρ n
theorem pts_weak {ifs : List Expr} {t t' : TT} (h : PTs X ifs t) (w : ∀ σ H Q, t' σ H Q → t σ H Q) : PTs X ifs t' := ⟨fun pins s σ H Q I q => h.run pins s σ H Q I (w _ _ _ q)⟩
structure FTs (X : Cx) (ifs : List Expr) (t : TTD) : Prop where
  mono : MonoT t
  pts : PTs X ifs (teT t)
theorem fts_nil : FTs X [] dYes := ⟨fun ρ n Q Q' m h => m _ _ _ h, pts_weak pts_nil fun σ H Q ⟨c, ρ, n, Hs, D, q⟩ => q _ _ D Ext.refl⟩
theorem fts_one {e : Expr} (h : FT X e tt) : FTs X [e] tt := ⟨h.mono, pts_one h.pt⟩
theorem mono_lcGo (mg : MonoG g) (mt : MonoT tt) (me : MonoE te) : ∀ (ds acc : List PyData) (ρ : DEnv) (n : Nat) (k k' : List PyData → Nat → Prop), (∀ o m, k o m → k' o m) → dLcGo g tt te vs ds acc ρ n k → dLcGo g tt te vs ds acc ρ n k'
  | [], acc, ρ, n, k, k', m, h => m _ _ h
  | d :: r, acc, ρ, n, k, k', m, h => mg _ _ _ _ (fun ρ2 h => mt _ _ _ _ (fun b ρ3 n3 h => ite_mono (fun h => me _ _ _ _ (fun rr ρ4 n4 h => toN_mono (fun r' h => by
      revert h; split
      · exact fun h => ⟨h.1, mono_lcGo mg mt me r _ _ _ k k' m h.2⟩
      · exact id) h) h) (fun h => ⟨h.1, mono_lcGo mg mt me r _ _ _ k k' m h.2⟩) h) h) h
/-- behind one turn of a comprehension's block -/
theorem lc_turn {c : Bs} {ρ1 ρ2 ρ4 : DEnv} {n n4 : Nat} {σ σ2 : SV} {Hs2 H2 Hs5 H4 : Hp} (D : DRel c ρ1 n σ Hs2 H2) (D2 : DRel c ρ2 n σ2 Hs2 H2) (sb : SameBut vs (L2.wipe σ vs) σ2) (nw : ∀ p, Owned ρ2 σ2 p → Owned (wipeD ρ1 vs) (L2.wipe σ vs) p)
    (E : Ext c σ2 ρ2 Hs2 H2 ρ4 Hs5 H4) (D5 : DRel c ρ4 n4 σ2 Hs5 H4) (hw : wipeD ρ4 vs = wipeD ρ1 vs) : DRel c ρ1 n4 σ Hs5 H4 ∧ Ext c σ ρ1 Hs2 H2 ρ1 Hs5 H4 := by
  have out : ∀ q, Owned (wipeD ρ1 vs) (L2.wipe σ vs) q → Owned ρ1 σ q := by
    rintro q ⟨j, o, h1, h2⟩
    obtain ⟨g1, k1⟩ := wipeD_get h1 (fun z => nomatch z)
    rw [wipe_out k1] at h2
    exact ⟨j, o, g1, h2⟩
  refine ⟨D.rebase D5 E.sh E.st fun q hq => ?_, E.sh, E.st, fun q h0 h1 h2 => E.ow q h0 h1 fun z => h2 (out q (nw q z)), fun _ h => h⟩
  obtain ⟨j, o, h1, h2⟩ := hq
  by_cases hj : j ∈ vs
  · have s := D.slot j
    rw [h1, h2] at s
    obtain ⟨a, e, ho, g1, g2, g3, g4, g5⟩ := s
    cases e
    refine E.ow q (ne_none g1) g3 fun z => ?_
    obtain ⟨j', o', z1, z2⟩ := nw q z
    obtain ⟨y1, k1⟩ := wipeD_get z1 (fun z => nomatch z)
    rw [wipe_out k1] at z2
    exact k1 (D.dist j j' o o' q h1 y1 h2 z2 ▸ hj)
  · have e1 : ρ4[j]? = some (.own o) := by
      rw [← wipeD_out hj, hw, wipeD_out hj]; exact h1
    have e2 : σ2[j]? = some (some (.ref q)) := by
      rw [sb.2 j hj, wipe_out hj]; exact h2
    have s := D5.slot j
    rw [e1, e2] at s
    obtain ⟨a, e, ho, g1, g2, g3, g4, g5⟩ := s
    cases e
    exact g3
/-- a thing that no name holds is written -/
theorem DRel.write {c : Bs} {ρ : DEnv} {n : Nat} {σ : SV} {Hs H : Hp} {p : Addr} {o : HO} (D : DRel c ρ n σ Hs H) (h1 : Hs p = none) (h2 : c.Hb p = none) (h3 : c.B ≠ some p) (h4 : ¬ Owned ρ σ p) : DRel c ρ n σ Hs (upd H p o) := by
  refine ⟨fun b x e => ?_, D.base, D.fix, fun q u b e => ?_, fun b e => ?_, D.len, fun i => ?_, D.dist⟩
  · rw [upd_ne (ne_of_none e h1)]; exact D.sub _ _ e
  · rw [upd_ne (ne_of_none e h2)]; exact D.old q u b e
  · obtain ⟨⟨x, y, z, q, q2⟩, q3⟩ := D.bag b e
    have : b ≠ p := fun z => h3 (z ▸ e)
    exact ⟨⟨x, y, z, by rw [upd_ne this]; exact q, q2⟩, q3⟩
  · have q := D.slot i
    cases e : ρ[i]? with
    | none => trivial
    | some s =>
      rw [e] at q
      cases s with
      | un => trivial
      | dat d => exact q
      | own o' =>
        obtain ⟨a, e2, ho, g1, g2, g3⟩ := q
        have : a ≠ p := fun z => h4 ⟨i, o', e, by rw [e2, z]⟩
        exact ⟨a, e2, ho, by rw [upd_ne this]; exact g1, g2, g3⟩
      | raw v => exact q
      | bag => exact q
theorem lc_weak {ws : List Nat} (mi : MonoI fi) (mg : MonoG g) (mt : MonoT tt) (me : MonoE te) (hws : ∀ i ∈ ws, i ∈ vs) : ∀ σ H Q, teE (dLc fi g tt te vs) σ H Q → tLc (teI true wf fi) (teG wf g ws) (teT tt) (teE te) vs σ H Q := by
  rintro σ H Q ⟨c, ρ, n, Hs, D, q⟩
  refine ⟨c, ρ, n, Hs, D, mi _ _ _ _ (fun ds ρ1 n1 q1 J Hs1 H1 D1 E1 wk => fun p hp => ?_) q⟩
  obtain ⟨hlen, q1⟩ := q1
  obtain ⟨D1', E1', p1, p2, p3, p4⟩ := D1.newOwn (o := .lst []) hp
  refine ⟨fun i m H' => m = ds.length - i ∧ i ≤ ds.length ∧ ∃ n' Hs' acc vacc, DRel c ρ1 n' σ Hs' H' ∧ Ext c σ ρ1 Hs1 H1 ρ1 Hs' H' ∧ H' p = some (.lst vacc) ∧ DqAll Hs' vacc acc ∧ Hs' p = none ∧ acc.length ≤ i ∧
    dLcGo g tt te vs (ds.drop i) acc ρ1 n' (fun out n2 => ∀ v Hs' H', DRel c ρ1 n2 σ Hs' H' → RRel c ρ1 σ Hs' H' (.own (.lst out)) v → Ext c σ ρ Hs H ρ1 Hs' H' → Fresh H (.own (.lst out)) v → Q v H'),
    ⟨ds.length, by omega, by omega, n1, Hs1, [], [], D1', E1', upd_same, .nil, p1, Nat.le_refl _, q1⟩, ?_⟩
  rintro i m H' ⟨rfl, hi', n', Hs', acc, vacc, D2, E2, a1, a2, a3, a4, q2⟩
  have stb : Stab true c Hs1 H1 Hs' H' := ⟨E2.sh, D2.sub, fun _ => E2.st⟩
  by_cases hlt : i < ds.length
  · refine .inr ⟨wk.go i _ _ hlt stb, _, fun H'' h => ⟨ds.length - (i + 1), by omega, rfl, hlt, h⟩, fun x H'' y => ?_⟩
    obtain ⟨d, hd, y⟩ := wk.yld i _ _ _ _ hlt stb y
    have hdrop : ds.drop i = d :: ds.drop (i + 1) := by
      rw [List.drop_eq_getElem_cons hlt]
      rw [List.getElem?_eq_getElem hlt] at hd
      cases hd; rfl
    rw [hdrop] at q2
    obtain ⟨Hs2, D3, E3, hx⟩ : ∃ Hs2, DRel c ρ1 n' σ Hs2 H'' ∧ Ext c σ ρ1 Hs' H' ρ1 Hs2 H'' ∧ DqW wf Hs2 H'' x d := by
      rcases y with ⟨rfl, hx⟩ | ⟨hw, T, xs, es, rfl, hT, rfl, he, rfl⟩
      · exact ⟨Hs', D2, Ext.refl, .inl hx⟩
      · obtain ⟨D3, E3, _⟩ := D2.newOwn (o := .tup xs) hT
        exact ⟨_, D3, E3, .inr ⟨hw, T, xs, es, rfl, upd_same, he, rfl⟩⟩
    have b1 : H'' p = some (.lst vacc) := E3.st _ _ p3 a1
    have b3 : Hs2 p = none := E3.ow p (ne_none a1) a3 p4
    refine ⟨c, wipeD ρ1 vs, n', Hs2, d, D3.wipe vs, hx, mg _ _ _ _ (fun ρ2 q3 σ2 D4 sb nw => ?_) q2⟩
    have sb' : SameBut vs (L2.wipe σ vs) σ2 := ⟨sb.1, fun j hj => sb.2 j fun z => hj (hws j z)⟩
    refine ⟨wipe_eq sb', c, ρ2, n', Hs2, D4, mt _ _ _ _ (fun b ρ3 n3 q4 Hs3 H3 D5 E5 => ite_mono (fun q4 => ?_) (fun q4 => ?_) q4) q3⟩
    · refine ⟨c, ρ3, n3, Hs3, D5, me _ _ _ _ (fun rr ρ4 n4 q5 v Hs4 H4 D6 R6 E6 F6 => ?_) q4⟩
      obtain ⟨r', Hs5, D7, R7, no, q6, E7⟩ := toN_ext E6 D6 R6 F6 q5
      split at q6
      · obtain ⟨hw, q6⟩ := q6
        obtain ⟨D8, E8⟩ := lc_turn D3 D4 sb' nw (E5.trans D5 E7) D7 hw
        have c1 : H4 p = some (.lst vacc) := E8.st _ _ p3 b1
        have c3 : Hs5 p = none := E8.ow p (ne_none b1) b3 p4
        have E9 := E2.trans D2 (E3.trans D3 E8)
        refine ⟨vacc, c1, ?_, n4, Hs5, _, _, D8.write c3 p2 p3 p4, ⟨E9.sh, fun b o hb h => ?_, E9.ow, E9.nw⟩, upd_same, dpAll_app (dpAll_mono (E3.sh.trans E8.sh) a2) (.cons R7 .nil), c3, by simp; omega, q6⟩
        · rw [dpAll_len a2]; exact small20' (by omega)
        · rw [upd_ne (ne_of_none h hp)]; exact E9.st _ _ hb h
      · exact q6.elim
    · obtain ⟨hw, q6⟩ := q4
      obtain ⟨D8, E8⟩ := lc_turn D3 D4 sb' nw E5 D5 hw
      have E9 := E2.trans D2 (E3.trans D3 E8)
      exact ⟨n3, Hs3, acc, vacc, D8, E9, E8.st _ _ p3 b1, dpAll_mono (E3.sh.trans E8.sh) a2, E8.ow p (ne_none b1) b3 p4, by omega, q6⟩
  · have ei : i = ds.length := by omega
    subst ei
    rw [List.drop_length] at q2
    refine .inl ⟨wk.stop _ _ stb, q2 (.ref p) Hs' H' D2 ⟨p, rfl, ⟨_, a1, a2, a3, p2, p3⟩, p4⟩ (E1.trans D1 E2) fun a e => ?_⟩
    cases e
    cases z : H p with
    | none => rfl
    | some u => exact absurd hp (E1.dom D1 (ne_none z))
theorem mono_lc (mi : MonoI fi) (mg : MonoG g) (mt : MonoT tt) (me : MonoE te) : MonoE (dLc fi g tt te vs) :=
  fun ρ n Q Q' m h => mi _ _ _ _ (fun ds ρ1 n1 h => ⟨h.1, mono_lcGo mg mt me _ _ _ _ _ _ (fun o n2 h => m _ _ _ h) h.2⟩) h
theorem fe_lc {ws : List Nat} (hc : X.calm = true) (hN : X.N.Nodup) (hi : FI true wf X tg iter fi) (ok : BlkOk X.N X.env.scope scope own) (hvs : own.map (·.2) = vs) (hws : ∀ i ∈ ws, i ∈ vs)
    (hg : ∀ (s : Shared) (H : Hp) (C : Addr) (cl : List (Str × Addr)) (fp : List Addr), FG wf (X.blk s H scope (compEnvC scope cl C X.env) fp) tg g ws) (ht : ∀ (s : Shared) (H : Hp) (C : Addr) (cl : List (Str × Addr)) (fp : List Addr), FTs (X.blk s H scope (compEnvC scope cl C X.env) fp) ifs tt)
    (he : ∀ (s : Shared) (H : Hp) (C : Addr) (cl : List (Str × Addr)) (fp : List Addr), FE (X.blk s H scope (compEnvC scope cl C X.env) fp) elt te) (hs : ∀ x, foldedSetIterable iter X.env x = pure x := by intro _; rfl) :
    FE X (.ListComp elt [⟨tg, iter, ifs, 0⟩] scope pos) (dLc fi g tt te vs) := by
  have mg := (hg {} (fun _ => none) 0 [] []).mono
  have mt := (ht {} (fun _ => none) 0 [] []).mono
  have me := (he {} (fun _ => none) 0 [] []).mono
  refine ⟨mono_lc hi.mono mg mt me, ?_⟩
  subst hvs
  exact pe_weak (pe_lc hc hN hi.pi ok (fun s H C cl fp => (hg s H C cl fp).pg) (fun s H C cl fp => (ht s H C cl fp).pts) (fun s H C cl fp => (he s H C cl fp).pe) hs) (lc_weak hi.mono mg mt me hws)
end
end DL

namespace DL
open PySem PySem.Spec PyProof.Rows L2
/-! ### statements -/
def dNext : TSD := fun D ρ n => D.nx ρ n
def dSeq (t u : TSD) : TSD := fun D ρ n => t { D with nx := u D } ρ n
def dNever : TSD := fun _ _ _ => False
def dDrop (f : TD) : TSD := fun D ρ n => f ρ n fun _ ρ' n' => D.nx ρ' n'
def noTmp (r : R) (k : Prop) : Prop := match r with | .tmp _ => False | _ => k
def dSet (i : Nat) (f : TD) : TSD := fun D ρ n => f ρ n fun r ρ' n' => noTmp r (D.nx (ρ'.set i (slOf r)) n')
def dRet (f : TD) : TSD := fun D ρ n => f ρ n fun r _ n' => noTmp r (D.rt r n')
/-- return x, x a list of one's own -/
def dRetV (i : Nat) : TSD := fun D ρ n => match ρ[i]? with
  | some (.dat d) => D.rt (.dat d) n
  | some (.own o) => D.rt (.own o) n
  | _ => False
def dIf (c : TTD) (t u : TSD) : TSD := fun D ρ n => c ρ n fun b ρ' n' => if b = true then t D ρ' n' else u D ρ' n'
def dForGo (g : TGD) (tb : TSD) (D : EndsD) : List PyData → DEnv → Nat → Prop
  | [], ρ, n => D.nx ρ n
  | d :: r, ρ, n => g d ρ fun ρ' => tb { nx := dForGo g tb D r, rt := D.rt, bk := D.nx, ct := dForGo g tb D r } ρ' n
def dFor (fi : TID) (g : TGD) (tb : TSD) : TSD := fun D ρ n => fi ρ n fun ds ρ' n' => dForGo g tb D ds ρ' n'
def dWhile (c : TTD) (tb : TSD) : TSD := fun D ρ n => ∃ W : Nat → DEnv → Nat → Prop, (∃ m, W m ρ n) ∧ ∀ m ρ n, W m ρ n → c ρ n fun b ρ' n' =>
  if b = true then tb { nx := fun ρ'' n'' => ∃ m', m' < m ∧ W m' ρ'' n'', rt := D.rt, bk := D.nx, ct := fun ρ'' n'' => ∃ m', m' < m ∧ W m' ρ'' n'' } ρ' n' else D.nx ρ' n'
def dBreak : TSD := fun D ρ n => D.bk ρ n
def dCont : TSD := fun D ρ n => D.ct ρ n
theorem noTmp_mono {r : R} {k k' : Prop} (m : k → k') (h : noTmp r k) : noTmp r k' := by
  unfold noTmp at h ⊢; split at h
  · exact h.elim
  · exact m h
theorem noTmp_at {r : R} {k : Prop} (h : noTmp r k) : (∀ ds, r ≠ .tmp ds) ∧ k := by
  unfold noTmp at h; split at h
  · exact h.elim
  · rename_i q; exact ⟨fun ds z => q ds z, h⟩
theorem EndsD.Le.rfl {D : EndsD} : EndsD.Le D D := ⟨fun _ _ h => h, fun _ _ h => h, fun _ _ h => h, fun _ _ h => h⟩
section
variable {c : Bs} {ρ ρ' : DEnv} {n n' : Nat} {σ : SV} {Hs H Hs' H' : Hp}
theorem DRel.noEnv (D : DRel c ρ n σ Hs H) : DRel c [] n [] Hs H :=
  ⟨D.sub, D.base, D.fix, D.old, D.bag, rfl, fun i => by simp [SlotOk], fun i j o o' a h => by simp at h⟩
theorem RRel.noEnv {r : R} {v : V} (h : RRel c ρ σ Hs H r v) : RRel c [] [] Hs H r v := by
  cases r with
  | own o => obtain ⟨a, e, h1, _⟩ := h; exact ⟨a, e, h1, fun ⟨i, o', q, _⟩ => by simp at q⟩
  | _ => exact h
end
section
variable {X : Cx} {st : Stmt} {rest : List Stmt} {t u tb : TSD} {e : Expr} {f g : TD} {pos : Pos}
theorem fss_nil : FSs X [] dNext := ⟨fun D D' ρ n le h => le.nx _ _ h, pss_weak pss_nil fun D σ H ⟨c, ρ, n, Hs, d, q⟩ => q σ Hs H d fun _ _ h => h⟩
theorem seq_weak (ht : MonoS t) (hu : MonoS u) : ∀ D σ H, teS (dSeq t u) D σ H → tSeq (teS t) (teS u) D σ H := by
  rintro D σ H ⟨c, ρ, n, Hs, d, q⟩
  refine ⟨c, ρ, n, Hs, d, ht { EndsD.lift c Hs D with nx := u (EndsD.lift c Hs D) } _ _ _ ⟨fun ρ' n' h σ' Hs' H' d' s => ⟨c, ρ', n', Hs', d', hu _ _ _ _ (EndsD.lift_le s) h⟩, fun _ _ h => h, fun _ _ h => h, fun _ _ h => h⟩ q⟩
theorem mono_seq (ht : MonoS t) (hu : MonoS u) : MonoS (dSeq t u) := fun D D' ρ n le h =>
  ht { D with nx := u D } _ _ _ ⟨fun ρ' n' h => hu _ _ _ _ le h, le.rt, le.bk, le.ct⟩ h
theorem fss_cons (h1 : FS X st t) (h2 : FSs X rest u) : FSs X (st :: rest) (dSeq t u) := ⟨mono_seq h1.mono h2.mono, pss_weak (pss_cons h1.ps h2.pss) (seq_weak h1.mono h2.mono)⟩
theorem fss_one (h1 : FS X st t) : FSs X [st] t := ⟨h1.mono, pss_one h1.ps⟩
theorem fs_pass : FS X (.Pass pos) dNext := ⟨fun D D' ρ n le h => le.nx _ _ h, ps_weak ps_pass fun D σ H ⟨c, ρ, n, Hs, d, q⟩ => q σ Hs H d fun _ _ h => h⟩
theorem fs_break : FS X (.Break pos) dBreak := ⟨fun D D' ρ n le h => le.bk _ _ h, ps_weak ps_break fun D σ H ⟨c, ρ, n, Hs, d, q⟩ => q σ Hs H d fun _ _ h => h⟩
theorem fs_cont : FS X (.Continue pos) dCont := ⟨fun D D' ρ n le h => le.ct _ _ h, ps_weak ps_continue fun D σ H ⟨c, ρ, n, Hs, d, q⟩ => q σ Hs H d fun _ _ h => h⟩
theorem fs_never : FS X st dNever := ⟨fun D D' ρ n le h => h, ps_weak ps_never fun D σ H ⟨c, ρ, n, Hs, d, q⟩ => q⟩
theorem fss_never {sts : List Stmt} : FSs X sts dNever := ⟨fun D D' ρ n le h => h, pss_weak pss_never fun D σ H ⟨c, ρ, n, Hs, d, q⟩ => q⟩
theorem fs_doc {x j pos'} : FS X (.Expr (.Constant (.str x) j pos) pos') dNext := ⟨fun D D' ρ n le h => le.nx _ _ h, ps_weak ps_doc fun D σ H ⟨c, ρ, n, Hs, d, q⟩ => q σ Hs H d fun _ _ h => h⟩
theorem fs_expr (he : FE X e f) (hs : swapsWith e none pos.line X.env = pure false := by rfl) : FS X (.Expr e pos) (dDrop f) :=
  ⟨fun D D' ρ n le h => he.mono _ _ _ _ (fun r ρ' n' h => le.nx _ _ h) h, ps_weak (ps_expr he.pe hs) fun D σ H ⟨c, ρ, n, Hs, d, q⟩ =>
    ⟨c, ρ, n, Hs, d, he.mono _ _ _ _ (fun r ρ' n' q v Hs' H' d' R' E' F' => q _ _ _ d' E'.sh) q⟩⟩
theorem fs_set {x : Str} {pos' : Pos} (i : Nat) (hN : X.N.Nodup) (he : FE X e f) (hi : X.N[i]? = some x := by rfl) (hx : Loc X.env.scope x := by first | exact .inl rfl | exact .inr rfl) (hs : swapsWith e (some (.Name x pos')) pos.line X.env = pure false := by rfl)
    (hf : X.fn x = true ∨ X.env.scope.names.lookup x = some .local := by first | exact .inl rfl | exact .inr rfl) : FS X (.Assign [.Name x pos'] e pos) (dSet i f) :=
  ⟨fun D D' ρ n le h => he.mono _ _ _ _ (fun r ρ' n' h => noTmp_mono (le.nx _ _) h) h, ps_weak (ps_set hN hi hx he.pe hs hf) fun D σ H ⟨c, ρ, n, Hs, d, q⟩ =>
    ⟨c, ρ, n, Hs, d, he.mono _ _ _ _ (fun r ρ' n' q v Hs' H' d' R' E' F' => by
      obtain ⟨h1, h2⟩ := noTmp_at q
      exact h2 _ _ _ (DRel.setSlot i d' R' h1) E'.sh) q⟩⟩
/-- name = [..], a comprehension on one line, the name a local -/
theorem fs_setL {y : Str} {py : Pos} {elt tg iter : Expr} {ifs : List Expr} {scope : Scope} {p2 spos : Pos} {own : List (Str × Nat)} {wf : Bool} {fi : TID} {g : TGD} {tt : TTD} {te : TD} {vs ws : List Nat} (i : Nat)
    (hc : X.calm = true) (hN : X.N.Nodup) (hi : FI true wf X tg iter fi) (ok : BlkOk X.N X.env.scope scope own) (hvs : own.map (·.2) = vs) (hws : ∀ i ∈ ws, i ∈ vs)
    (hg : ∀ (s : Shared) (H : Hp) (C : Addr) (cl : List (Str × Addr)) (fp : List Addr), FG wf (X.blk s H scope (compEnvC scope cl C X.env) fp) tg g ws) (ht : ∀ (s : Shared) (H : Hp) (C : Addr) (cl : List (Str × Addr)) (fp : List Addr), FTs (X.blk s H scope (compEnvC scope cl C X.env) fp) ifs tt)
    (he : ∀ (s : Shared) (H : Hp) (C : Addr) (cl : List (Str × Addr)) (fp : List Addr), FE (X.blk s H scope (compEnvC scope cl C X.env) fp) elt te)
    (hy : X.N[i]? = some y := by rfl) (hyl : X.env.scope.names.lookup y = some .local := by rfl) (hsw : swapsWith (.ListComp elt [⟨tg, iter, ifs, 0⟩] scope p2) (some (.Name y py)) spos.line X.env = pure true := by exact sw_true rfl rfl rfl (by decide +kernel))
    (hs : ∀ x, foldedSetIterable iter X.env x = pure x := by intro _; rfl) :
    FS X (.Assign [.Name y py] (.ListComp elt [⟨tg, iter, ifs, 0⟩] scope p2) spos) (dSet i (dLc fi g tt te vs)) := by
  have mg := (hg {} (fun _ => none) 0 [] []).mono
  have mt := (ht {} (fun _ => none) 0 [] []).mono
  have me := (he {} (fun _ => none) 0 [] []).mono
  have hm := mono_lc (vs := vs) hi.mono mg mt me
  subst hvs
  refine ⟨fun D D' ρ n le h => hm _ _ _ _ (fun r ρ' n' h => noTmp_mono (le.nx _ _) h) h, ps_weak (ps_setLc hc hN hy hyl hsw hi.pi ok (fun s H C cl fp => (hg s H C cl fp).pg) (fun s H C cl fp => (ht s H C cl fp).pts) (fun s H C cl fp => (he s H C cl fp).pe) hs) fun D σ H ⟨c, ρ, n, Hs, d, q⟩ =>
    lc_weak hi.mono mg mt me hws _ _ _ ⟨c, ρ, n, Hs, d, hm _ _ _ _ (fun r ρ' n' q v Hs' H' d' R' E' F' => by
      obtain ⟨h1, h2⟩ := noTmp_at q
      exact h2 _ _ _ (DRel.setSlot i d' R' h1) E'.sh) q⟩⟩
theorem fs_ret (he : FE X e f) : FS X (.Return (some e) pos) (dRet f) :=
  ⟨fun D D' ρ n le h => he.mono _ _ _ _ (fun r ρ' n' h => noTmp_mono (le.rt _ _) h) h, ps_weak (ps_ret he.pe) fun D σ H ⟨c, ρ, n, Hs, d, q⟩ =>
    ⟨c, ρ, n, Hs, d, he.mono _ _ _ _ (fun r ρ' n' q v Hs' H' d' R' E' F' => by
      obtain ⟨h1, h2⟩ := noTmp_at q
      exact h2 _ _ _ d'.noEnv R'.noEnv) q⟩⟩
theorem fs_retV {x : Str} {pos' : Pos} (i : Nat) (hN : X.N[i]? = some x := by rfl) (hv : Vis X.env.scope x := by first | exact Or.inl rfl | exact Or.inr (Or.inl rfl) | exact Or.inr (Or.inr rfl)) (hd : (x == ("__debug__" : Str)) = false := by decide)
    (hcd : (x == ("__classdict__" : Str)) = false := by decide) : FS X (.Return (some (.Name x pos')) pos) (dRetV i) := by
  refine ⟨fun D D' ρ n le h => ?_, ps_weak (ps_ret (pe_var hN hv hd hcd)) ?_⟩
  · revert h; unfold dRetV; split
    · exact le.rt _ _
    · exact le.rt _ _
    · exact id
  · rintro D σ H ⟨c, ρ, n, Hs, d, q⟩
    have s := d.slot i
    unfold dRetV at q
    cases ei : ρ[i]? with
    | none => rw [ei] at q; exact q.elim
    | some sl =>
      rw [ei] at q s
      cases sl with
      | un => exact q.elim
      | dat dd => obtain ⟨x, e1, e2⟩ := s; exact ⟨x, e1, q _ _ _ d.noEnv e2⟩
      | own o => obtain ⟨a, e1, h1⟩ := s; exact ⟨_, e1, q _ _ _ d.noEnv ⟨a, rfl, h1, fun ⟨i, o', q, _⟩ => by simp at q⟩⟩
      | raw v => exact q.elim
      | bag => exact q.elim
theorem fs_if {ec : Expr} {a b : List Stmt} {tc : TTD} (hc : FT X ec tc) (ha : FSs X a t) (hb : FSs X b u) : FS X (.If ec a b pos) (dIf tc t u) :=
  ⟨fun D D' ρ n le h => hc.mono _ _ _ _ (fun b ρ' n' h => ite_mono (fun h => ha.mono _ _ _ _ le h) (fun h => hb.mono _ _ _ _ le h) h) h, ps_weak (ps_if hc.pt ha.pss hb.pss) fun D σ H ⟨c, ρ, n, Hs, d, q⟩ =>
    ⟨c, ρ, n, Hs, d, hc.mono _ _ _ _ (fun b ρ' n' q Hs' H' d' E' => ite_mono (fun q => ⟨c, ρ', n', Hs', d', ha.mono _ _ _ _ (EndsD.lift_le E'.sh) q⟩) (fun q => ⟨c, ρ', n', Hs', d', hb.mono _ _ _ _ (EndsD.lift_le E'.sh) q⟩) q) q⟩⟩
theorem mono_forGo {g : TGD} (mg : MonoG g) (mb : MonoS tb) {D D' : EndsD} (le : EndsD.Le D D') : ∀ ds ρ n, dForGo g tb D ds ρ n → dForGo g tb D' ds ρ n
  | [], ρ, n, h => le.nx _ _ h
  | d :: r, ρ, n, h => mg _ _ _ _ (fun ρ' h => mb { nx := dForGo g tb D r, rt := D.rt, bk := D.nx, ct := dForGo g tb D r } _ _ _ ⟨mono_forGo mg mb le r, le.rt, le.nx, mono_forGo mg mb le r⟩ h) h
theorem fs_for {wf : Bool} {tg iter : Expr} {body : List Stmt} {fi : TID} {g : TGD} {ws : List Nat} (hp : PassesOwn (model X.prog X.w) X.A X.env X.xe) (hc : X.calm = true) (hi : FI false wf X tg iter fi) (hg : FG wf X tg g ws) (hb : FSs X body tb)
    (hs : ∀ x, foldedSetIterable iter X.env x = pure x := by intro _; rfl) : FS X (.For tg iter body [] pos) (dFor fi g tb) := by
  refine ⟨fun D D' ρ n le h => hi.mono _ _ _ _ (fun ds ρ' n' h => mono_forGo hg.mono hb.mono le _ _ _ h) h, ps_weak (ps_for hp hc hi.pi hg.pg hb.pss hs) ?_⟩
  rintro D σ H ⟨c, ρ, n, Hs, d, q⟩
  refine ⟨c, ρ, n, Hs, d, hi.mono _ _ _ _ (fun ds ρ1 n1 q1 J Hs1 H1 d1 E1 wk => ?_) q⟩
  refine ⟨fun i m σ H => m = ds.length - i ∧ i ≤ ds.length ∧ ∃ ρ n Hs', DRel c ρ n σ Hs' H ∧ Same Hs1 Hs' ∧ dForGo g tb (EndsD.lift c Hs1 D) (ds.drop i) ρ n, ⟨ds.length, by omega, by omega, ρ1, n1, Hs1, d1, fun _ _ h => h, mono_forGo hg.mono hb.mono (EndsD.lift_le E1.sh) _ _ _ q1⟩, ?_⟩
  rintro i m σ2 H2 ⟨rfl, hi', ρ2, n2, Hs2, d2, s2, q2⟩
  have stb : Stab false c Hs1 H1 Hs2 H2 := ⟨s2, d2.sub, fun h => nomatch h⟩
  by_cases hlt : i < ds.length
  · refine .inr ⟨wk.go i _ _ hlt stb, fun σ' H' => ∃ ρ n Hs', DRel c ρ n σ' Hs' H' ∧ Same Hs1 Hs' ∧ dForGo g tb (EndsD.lift c Hs1 D) (ds.drop (i + 1)) ρ n, fun σ' H' h => ⟨ds.length - (i + 1), by omega, rfl, hlt, h⟩, fun x H'' y => ?_⟩
    obtain ⟨dd, hd, y⟩ := wk.yld i _ _ _ _ hlt stb y
    have hdrop : ds.drop i = dd :: ds.drop (i + 1) := by
      rw [List.drop_eq_getElem_cons hlt]
      rw [List.getElem?_eq_getElem hlt] at hd
      cases hd; rfl
    rw [hdrop] at q2
    obtain ⟨Hs3, d3, s3, hx⟩ : ∃ Hs3, DRel c ρ2 n2 σ2 Hs3 H'' ∧ Same Hs2 Hs3 ∧ DqW wf Hs3 H'' x dd := by
      rcases y with ⟨rfl, hx⟩ | ⟨hw, T, xs, es, rfl, hT, rfl, he, rfl⟩
      · exact ⟨Hs2, d2, fun _ _ h => h, .inl hx⟩
      · obtain ⟨D3, E3, _⟩ := d2.newOwn (o := .tup xs) hT
        exact ⟨_, D3, E3.sh, .inr ⟨hw, T, xs, es, rfl, upd_same, he, rfl⟩⟩
    refine ⟨c, ρ2, n2, Hs3, dd, d3, hx, hg.mono _ _ _ _ (fun ρ' q3 σ' d4 sb nw => ⟨c, ρ', n2, Hs3, d4, hb.mono { nx := dForGo g tb (EndsD.lift c Hs1 D) (ds.drop (i + 1)), rt := (EndsD.lift c Hs1 D).rt, bk := (EndsD.lift c Hs1 D).nx, ct := dForGo g tb (EndsD.lift c Hs1 D) (ds.drop (i + 1)) } _ _ _ ⟨fun ρ'' n'' h σ'' Hs'' H'' d'' s'' => ⟨ρ'', n'', Hs'', d'', s2.trans (s3.trans s''), h⟩, fun r n' h => h,
      fun ρ'' n'' h σ'' Hs'' H'' d'' s'' => h σ'' Hs'' H'' d'' (s2.trans (s3.trans s'')), fun ρ'' n'' h σ'' Hs'' H'' d'' s'' => ⟨ρ'', n'', Hs'', d'', s2.trans (s3.trans s''), h⟩⟩ q3⟩) q2⟩
  · have ei : i = ds.length := by omega
    subst ei
    rw [List.drop_length] at q2
    exact .inl ⟨wk.stop _ _ stb, q2 σ2 Hs2 H2 d2 s2⟩
theorem fs_while {ec : Expr} {body : List Stmt} {tc : TTD} (hp : PassesOwn (model X.prog X.w) X.A X.env X.xe) (hc : FT X ec tc) (hb : FSs X body tb) : FS X (.While ec body [] pos) (dWhile tc tb) := by
  refine ⟨fun D D' ρ n le ⟨W, h0, h⟩ => ⟨W, h0, fun m ρ n w => hc.mono _ _ _ _ (fun b ρ' n' h => ite_mono (fun h => hb.mono { nx := fun ρ'' n'' => ∃ m', m' < m ∧ W m' ρ'' n'', rt := D.rt, bk := D.nx, ct := fun ρ'' n'' => ∃ m', m' < m ∧ W m' ρ'' n'' } _ _ _ ⟨fun _ _ h => h, le.rt, le.nx, fun _ _ h => h⟩ h) (le.nx _ _) h) (h m ρ n w)⟩, ps_weak (ps_while hp hc.pt hb.pss) ?_⟩
  rintro D σ H ⟨c, ρ, n, Hs, d, W, ⟨m0, h0⟩, h⟩
  refine ⟨fun m σ H => ∃ ρ n Hs', DRel c ρ n σ Hs' H ∧ Same Hs Hs' ∧ W m ρ n, ⟨m0, ρ, n, Hs, d, fun _ _ h => h, h0⟩, ?_⟩
  rintro m σ2 H2 ⟨ρ2, n2, Hs2, d2, s2, w⟩
  refine ⟨c, ρ2, n2, Hs2, d2, hc.mono _ _ _ _ (fun b ρ' n' q Hs3 H3 d3 E3 => ite_mono (fun q => ?_) (fun q => q _ _ _ d3 (s2.trans E3.sh)) q) (h m ρ2 n2 w)⟩
  refine ⟨fun σ' H' => ∃ m', m' < m ∧ ∃ ρ n Hs', DRel c ρ n σ' Hs' H' ∧ Same Hs Hs' ∧ W m' ρ n, fun σ' H' h => h, c, ρ', n', Hs3, d3, hb.mono { nx := fun ρ'' n'' => ∃ m', m' < m ∧ W m' ρ'' n'', rt := (EndsD.lift c Hs D).rt, bk := (EndsD.lift c Hs D).nx, ct := fun ρ'' n'' => ∃ m', m' < m ∧ W m' ρ'' n'' } _ _ _ ⟨fun ρ'' n'' ⟨m', hm, w'⟩ σ'' Hs'' H'' d'' s'' => ⟨m', hm, ρ'', n'', Hs'', d'', s2.trans (E3.sh.trans s''), w'⟩, fun r n' h => h,
    fun ρ'' n'' h σ'' Hs'' H'' d'' s'' => h σ'' Hs'' H'' d'' (s2.trans (E3.sh.trans s'')), fun ρ'' n'' ⟨m', hm, w'⟩ σ'' Hs'' H'' d'' s'' => ⟨m', hm, ρ'', n'', Hs'', d'', s2.trans (E3.sh.trans s''), w'⟩⟩ q⟩
end
/-! ### lists of one's own, changed -/
section
variable {c : Bs} {ρ : DEnv} {n : Nat} {σ : SV} {Hs H : Hp}
/-- the slot's own thing is written -/
theorem DRel.writeSlot {i : Nat} {a : Addr} {o o' : Own} {ho : HO} (D : DRel c ρ n σ Hs H) (e : ρ[i]? = some (.own o)) (e2 : σ[i]? = some (some (.ref a))) (h : OwnRel Hs o' ho) : DRel c (ρ.set i (.own o')) n σ Hs (upd H a ho) := by
  have s := D.slot i
  rw [e, e2] at s
  obtain ⟨b, eb, ho', h1, h2, h3, h4, h5⟩ := s
  cases eb
  have li : i < ρ.length := by
    rcases Nat.lt_or_ge i ρ.length with q | q
    · exact q
    · rw [List.getElem?_eq_none q] at e; cases e
  refine ⟨fun b x z => ?_, D.base, D.fix, fun q u b z => ?_, fun b z => ?_, by rw [List.length_set]; exact D.len, fun j => ?_, fun j k o o' b j1 k1 j2 k2 => ?_⟩
  · rw [upd_ne (ne_of_none z h3)]; exact D.sub _ _ z
  · rw [upd_ne (ne_of_none z h4)]; exact D.old q u b z
  · obtain ⟨⟨x, y, z', q, q2⟩, q3⟩ := D.bag b z
    have : b ≠ a := fun w => h5 (w ▸ z)
    exact ⟨⟨x, y, z', by rw [upd_ne this]; exact q, q2⟩, q3⟩
  · by_cases hj : i = j
    · subst hj
      rw [List.getElem?_set_self li, e2]
      exact ⟨a, rfl, ho, upd_same, h, h3, h4, h5⟩
    · rw [getElem?_set_ne' hj]
      have q := D.slot j
      cases ej : ρ[j]? with
      | none => trivial
      | some s =>
        rw [ej] at q
        cases s with
        | un => trivial
        | dat d => exact q
        | own o'' =>
          obtain ⟨b, e', ho', g1, g2, g3⟩ := q
          have : b ≠ a := fun z => hj (D.dist i j _ _ a e ej e2 (by rw [e', z]))
          exact ⟨b, e', ho', by rw [upd_ne this]; exact g1, g2, g3⟩
        | raw v => exact q
        | bag => exact q
  · rcases set_get? j1 with ⟨ej, _⟩ | ⟨hj, j3⟩
    · rcases set_get? k1 with ⟨ek, _⟩ | ⟨hk, k3⟩
      · rw [ej, ek]
      · subst ej; exact D.dist j k _ _ b e k3 j2 k2
    · rcases set_get? k1 with ⟨ek, _⟩ | ⟨hk, k3⟩
      · subst ek; exact D.dist j k _ _ b j3 e j2 k2
      · exact D.dist j k _ _ b j3 k3 j2 k2
end
def isOwnL (s : Option Sl) : Prop := match s with | some (.own (.lst _)) => True | _ => False
def dApp (i : Nat) (f : TD) : TSD := fun D ρ n => isOwnL ρ[i]? ∧ f ρ n fun r ρ' n' => toN r fun r' => match r' with
  | .dat d => (match ρ'[i]? with
    | some (.own (.lst ds)) => ds.length < 1000000 ∧ D.nx (ρ'.set i (.own (.lst (ds ++ [d])))) n'
    | _ => False)
  | _ => False
def dPop (j i : Nat) : TSD := fun D ρ n => match ρ[j]? with
  | some (.own (.lst ds)) => (match ds[ds.length - 1]? with
    | some d => D.nx ((ρ.set j (.own (.lst ds.dropLast))).set i (.dat d)) n
    | none => False)
  | _ => False
def setAt (D : EndsD) (ρ : DEnv) (n : Nat) (j : Nat) (d : PyData) (k : Int) : Prop := match ρ[j]? with
  | some (.own (.lst ds)) => (match ixN ds.length k with
    | some m => D.nx (ρ.set j (.own (.lst (ds.set m d)))) n
    | none => False)
  | _ => False
theorem setAt_inv {D : EndsD} {ρ : DEnv} {n : Nat} {j : Nat} {d : PyData} {k : Int} (h : setAt D ρ n j d k) : ∃ ds m, ρ[j]? = some (.own (.lst ds)) ∧ ixN ds.length k = some m ∧ D.nx (ρ.set j (.own (.lst (ds.set m d)))) n := by
  unfold setAt at h
  split at h
  · rename_i ds e
    split at h
    · rename_i m em
      exact ⟨ds, m, e, em, h⟩
    · exact h.elim
  · exact h.elim
theorem setAt_mono {D D' : EndsD} {ρ : DEnv} {n : Nat} {j : Nat} {d : PyData} {k : Int} (le : EndsD.Le D D') (h : setAt D ρ n j d k) : setAt D' ρ n j d k := by
  obtain ⟨ds, m, e, em, h⟩ := setAt_inv h
  unfold setAt
  rw [e]
  show (match ixN ds.length k with | some m => _ | none => False)
  rw [em]
  exact le.nx _ _ h
def dSetIx (j : Nat) (f g : TD) : TSD := fun D ρ n => f ρ n fun r ρ1 n1 => toN r fun r' => match r' with
  | .dat d => isOwnL ρ1[j]? ∧ g ρ1 n1 fun k ρ2 n2 => asI k fun k => setAt D ρ2 n2 j d k
  | _ => False
section
variable {X : Cx} {e i' : Expr} {f g : TD} {pos cpos apos tpos xpos : Pos}
theorem isOwnL_at {c : Bs} {ρ : DEnv} {n : Nat} {σ : SV} {Hs H : Hp} {i : Nat} (D : DRel c ρ n σ Hs H) (h : isOwnL ρ[i]?) : ∃ ds a vs, ρ[i]? = some (.own (.lst ds)) ∧ σ[i]? = some (some (.ref a)) ∧ H a = some (.lst vs) ∧ DqAll Hs vs ds := by
  unfold isOwnL at h
  split at h
  · rename_i ds e
    have s := D.slot i
    rw [e] at s
    obtain ⟨a, e2, ho, h1, h2, _⟩ := s
    cases ho with
    | lst vs => exact ⟨ds, a, vs, e, e2, h1, h2⟩
    | _ => exact h2.elim
  · exact h.elim
theorem fs_app {x : Str} (i : Nat) (he : FE X e f) (hN : X.N[i]? = some x := by rfl) (hv : Vis X.env.scope x := by first | exact Or.inl rfl | exact Or.inr (Or.inl rfl) | exact Or.inr (Or.inr rfl)) (hd : (x == ("__debug__" : Str)) = false := by decide)
    (hcd : (x == ("__classdict__" : Str)) = false := by decide)
    (hbase : attributeBase (.Name x xpos) "append" X.env (eval (.Name x xpos) X.env) = eval (.Name x xpos) X.env := by rfl)
    (hfew : ((backTo cpos (starEach [e] X.env)).all (fun x => !x.1) && (backToKw cpos (keywordEach [] X.env)).all (fun x => x.1.isSome)
      && decide ([e].length + ([] : List Keyword).length + (if ([] : List Keyword).isEmpty then 0 else 1) < 30)) = true := by rfl)
    (hline : (apos.endLine == cpos.line) = true := by rfl) (hs : starEach [e] X.env = (false, eval e X.env) :: starEach [] X.env := by rfl) (hplain : (backTo cpos (starEach [] X.env)).any (·.1) = false := by rfl)
    (hsw : swapsWith (.Call (.Attribute (.Name x xpos) "append" apos) [e] [] cpos) none pos.line X.env = pure false := by rfl) :
    FS X (.Expr (.Call (.Attribute (.Name x xpos) "append" apos) [e] [] cpos) pos) (dApp i f) := by
  refine ⟨fun D D' ρ n le h => ⟨h.1, he.mono _ _ _ _ (fun r ρ' n' h => toN_mono (fun r' h => ?_) h) h.2⟩, ps_weak (ps_expr (pe_bm PySem.F.plainAttrs_list PySem.F.slot_list_append PySem.F.type_list_append mt_append (pe_var hN hv hd hcd) (pa_cons he.pe pa_nil hs) hbase hfew hline hs hplain) hsw) ?_⟩
  · revert h; split
    · split
      · exact fun h => ⟨h.1, le.nx _ _ h.2⟩
      · exact id
    · exact id
  · rintro D σ H ⟨c, ρ, n, Hs, d, q0, q⟩
    obtain ⟨ds0, a, vs0, e0, e1, e2, e3⟩ := isOwnL_at d q0
    refine ⟨_, e1, .inl ⟨rfl, vs0, SqL.of e2⟩, c, ρ, n, Hs, d, he.mono _ _ _ _ (fun r ρ' n' q v Hs1 H1 d1 R1 E1 F1 => ?_) q⟩
    obtain ⟨r', Hs2, d2, R2, no, q2, E2⟩ := toN_ext E1 d1 R1 F1 q
    split at q2
    · split at q2
      · rename_i dd _ ds ei
        obtain ⟨ds', a', vs', g0, g1, g2, g3⟩ := isOwnL_at (i := i) d2 (by rw [ei]; trivial)
        rw [ei] at g0; cases g0
        rw [e1] at g1; cases g1
        refine ⟨a, vs', v, rfl, rfl, g2, by rw [dpAll_len g3]; exact small20' q2.1, q2.2 _ _ _ (DRel.writeSlot d2 ei e1 (o' := .lst (ds ++ [dd])) (dpAll_app g3 (.cons R2 .nil))) E2.sh⟩
      · exact q2.elim
    · exact q2.elim
theorem fs_pop {x y : Str} {ypos : Pos} (j i : Nat) (hNd : X.N.Nodup) (hN : X.N[j]? = some x := by rfl) (hv : Vis X.env.scope x := by first | exact Or.inl rfl | exact Or.inr (Or.inl rfl) | exact Or.inr (Or.inr rfl)) (hd : (x == ("__debug__" : Str)) = false := by decide)
    (hcd : (x == ("__classdict__" : Str)) = false := by decide)
    (hbase : attributeBase (.Name x xpos) "pop" X.env (eval (.Name x xpos) X.env) = eval (.Name x xpos) X.env := by rfl)
    (hline : (apos.endLine == cpos.line) = true := by rfl)
    (hi : X.N[i]? = some y := by rfl) (hx : Loc X.env.scope y := by first | exact .inl rfl | exact .inr rfl) (hsw : swapsWith (.Call (.Attribute (.Name x xpos) "pop" apos) [] [] cpos) (some (.Name y ypos)) pos.line X.env = pure false := by rfl)
    (hf : X.fn y = true ∨ X.env.scope.names.lookup y = some .local := by first | exact .inl rfl | exact .inr rfl) :
    FS X (.Assign [.Name y ypos] (.Call (.Attribute (.Name x xpos) "pop" apos) [] [] cpos) pos) (dPop j i) := by
  refine ⟨fun D D' ρ n le h => ?_, ps_weak (ps_set hNd hi hx (pe_bm0 PySem.F.plainAttrs_list PySem.F.slot_list_pop PySem.F.type_list_pop mt_pop (pe_var hN hv hd hcd) hbase hline) hsw hf) ?_⟩
  · unfold dPop at h ⊢; split at h
    · split at h
      · exact le.nx _ _ h
      · exact h.elim
    · exact h.elim
  · rintro D σ H ⟨c, ρ, n, Hs, d, q⟩
    unfold dPop at q; split at q
    · split at q
      · rename_i ds ei _ dd ed
        obtain ⟨ds', a, vs', g0, g1, g2, g3⟩ := isOwnL_at (i := j) d (by rw [ei]; trivial)
        rw [ei] at g0; cases g0
        obtain ⟨v, hv, hq⟩ := dpAll_get g3 ed
        refine ⟨_, g1, .inl ⟨rfl, vs', SqL.of g2⟩, a, vs', v, rfl, rfl, g2, by rw [dpAll_len g3]; exact hv, ?_⟩
        have d2 := DRel.writeSlot d ei g1 (o' := .lst ds.dropLast) (ho := .lst vs'.dropLast) (dpAll_dropLast g3)
        exact q _ _ _ (DRel.setSlot (r := .dat dd) i d2 hq (fun _ z => nomatch z)) (fun _ _ h => h)
      · exact q.elim
    · exact q.elim
theorem fs_setIx {x : Str} (j : Nat) (he : FE X e f) (hi : FE X i' g) (hN : X.N[j]? = some x := by rfl) (hv : Vis X.env.scope x := by first | exact Or.inl rfl | exact Or.inr (Or.inl rfl) | exact Or.inr (Or.inr rfl)) (hd : (x == ("__debug__" : Str)) = false := by decide)
    (hcd : (x == ("__classdict__" : Str)) = false := by decide)
    (ha : ∀ v, assign (.Subscript (.Name x xpos) i' tpos) X.env v = (do
      let ov ← holding [v] (eval (.Name x xpos) X.env)
      let iv ← holding [v, ov] (eval i' X.env)
      standAt tpos
      holding [v, ov, iv] (setItem ov iv v)
      release [v, ov, iv] []) := by intro _; rfl)
    (hs : swapsWithSole [.Subscript (.Name x xpos) i' tpos] e pos.line X.env = pure false := by rfl) (hw : swappedStores [.Subscript (.Name x xpos) i' tpos] e X.env = pure none := by rfl)
    (h1 : (assignEach [.Subscript (.Name x xpos) i' tpos] X.env).map (·.2) = [assign (.Subscript (.Name x xpos) i' tpos) X.env] := by rfl) :
    FS X (.Assign [.Subscript (.Name x xpos) i' tpos] e pos) (dSetIx j f g) := by
  refine ⟨fun D D' ρ n le h => he.mono _ _ _ _ (fun r ρ' n' h => toN_mono (fun r' h => ?_) h) h, ps_weak (ps_asg he.pe (pg_sub (pe_var hN hv hd hcd) hi.pe set_list ha) hs hw h1) ?_⟩
  · cases r' with
    | dat d => exact ⟨h.1, hi.mono _ _ _ _ (fun k ρ2 n2 h => asI_mono (fun k h => setAt_mono le h) h) h.2⟩
    | _ => exact False.elim h
  · rintro D σ H ⟨c, ρ, n, Hs, d, q⟩
    refine ⟨c, ρ, n, Hs, d, he.mono _ _ _ _ (fun r ρ1 n1 q v Hs1 H1 d1 R1 E1 F1 => ?_) q⟩
    obtain ⟨r', Hs2, d2, R2, no, q2, E2⟩ := toN_ext E1 d1 R1 F1 q
    split at q2
    · rename_i dd
      obtain ⟨q2, q3⟩ := q2
      obtain ⟨ds0, a, vs0, e0, e1, e2, e3⟩ := isOwnL_at d2 q2
      refine ⟨_, e1, c, ρ1, n1, Hs2, d2, hi.mono _ _ _ _ (fun k ρ2 n2 q4 u Hs3 H3 d3 R3 E3 F3 => ?_) q3⟩
      obtain ⟨k, rfl, q4⟩ := asI_inv q4
      cases R3
      obtain ⟨ds, m, ei, em, q5⟩ := setAt_inv q4
      obtain ⟨ds', a', vs', g0, g1, g2, g3⟩ := isOwnL_at (i := j) d3 (by rw [ei]; trivial)
      rw [ei] at g0; cases g0
      rw [e1] at g1; cases g1
      exact ⟨a, vs', _, m, rfl, rfl, g2, by rw [dpAll_len g3]; exact em, q5 _ _ _ (DRel.writeSlot d3 ei e1 (o' := .lst (ds.set m dd)) (dpAll_set (dp_mono E3.sh R2) m g3)) (E2.sh.trans E3.sh)⟩
    · exact q2.elim
end
/-! ### several names at once -/
def setAll (ρ : DEnv) : List Nat → List R → DEnv
  | i :: is, r :: rs => setAll (ρ.set i (slOf r)) is rs
  | _, _ => ρ
def noTmps : List R → Prop
  | [] => True
  | .tmp _ :: _ => False
  | _ :: r => noTmps r
def dPar (is : List Nat) (t : TAD) : TSD := fun D ρ n => t ρ n fun rs ρ' n' => rs.length = is.length ∧ noTmps rs ∧ D.nx (setAll ρ' is rs) n'
def setAllV (σ : SV) : List Nat → List V → SV
  | i :: is, v :: vs => setAllV (σ.set i (some v)) is vs
  | _, _ => σ
section
variable {c : Bs} {n : Nat} {Hs H : Hp}
theorem DRel.setAll : ∀ (is : List Nat) {rs : List R} {vs : List V} {ρ : DEnv} {σ : SV}, DRel c ρ n σ Hs H → Paired (RRel c ρ σ Hs H) rs vs → OwnDist rs vs → noTmps rs → DRel c (DL.setAll ρ is rs) n (setAllV σ is vs) Hs H
  | [], _, _, ρ, σ, D, _, _, _ => by simpa [DL.setAll, setAllV] using D
  | i :: is, [], _, ρ, σ, D, .nil, _, _ => by simpa [DL.setAll, setAllV] using D
  | i :: is, r :: rs, _, ρ, σ, D, .cons (b := v) (l₂ := vs) h t, od, nt => by
    have hr : ∀ ds, r ≠ .tmp ds := fun ds z => by subst z; exact nt
    have nt' : noTmps rs := by
      cases r <;> first | exact nt | exact nt.elim
    have D' := DRel.setSlot i D h hr
    have od' : OwnDist rs vs := fun a b o o' p h1 h2 h3 h4 => by
      have := od (a + 1) (b + 1) o o' p (by simpa using h1) (by simpa using h2) (by simpa using h3) (by simpa using h4)
      omega
    have t' : Paired (RRel c (ρ.set i (slOf r)) (σ.set i (some v)) Hs H) rs vs := by
      have key : ∀ (j : Nat) (r' : R) (v' : V), rs[j]? = some r' → vs[j]? = some v' → RRel c ρ σ Hs H r' v' → RRel c (ρ.set i (slOf r)) (σ.set i (some v)) Hs H r' v' := by
        intro j r' v' h1 h2 hr'
        cases r' with
        | own o =>
          obtain ⟨a, e, g1, g2⟩ := hr'
          refine ⟨a, e, g1, fun z => ?_⟩
          rcases owned_set z with ⟨o', e1, e2⟩ | z
          · cases r with
            | own o'' =>
              have := od 0 (j + 1) o'' o a rfl (by simpa using h1) (by simp [e2]) (by simp [h2, e])
              omega
            | dat _ => cases e1
            | tmp _ => cases e1
            | raw _ => cases e1
            | bag => cases e1
          · exact g2 z
        | dat d => exact hr'
        | tmp d => exact hr'
        | raw d => exact hr'
        | bag => exact hr'
      clear od od' nt nt' D'
      revert key
      generalize RRel c ρ σ Hs H = P at t
      intro key
      clear h
      induction t with
      | nil => exact .nil
      | cons h0 t0 ih => exact .cons (key 0 _ _ rfl rfl h0) (ih fun j r' v' h1 h2 => key (j + 1) r' v' (by simpa using h1) (by simpa using h2))
    exact DRel.setAll is D' t' od' nt'
end
/-- plain names as targets, one after another -/
def gNames : List Nat → TGs
  | [] => gNil
  | i :: is => gCons (gName i) (gNames is)
theorem gNames_at : ∀ {is : List Nat} {vs : List V} {σ : SV} {H : Hp} {Q : SV → Hp → Prop}, vs.length = is.length → Q (setAllV σ is vs) H → gNames is vs σ H Q
  | [], [], σ, H, Q, _, h => ⟨rfl, h⟩
  | [], _ :: _, _, _, _, e, _ => nomatch e
  | _ :: _, [], _, _, _, e, _ => nomatch e
  | i :: is, v :: vs, σ, H, Q, e, h => ⟨v, vs, rfl, gNames_at (by simpa using e) h⟩
structure FNs (X : Cx) (es : List Expr) (is : List Nat) : Prop where
  pgs : PGs X es (gNames is)
theorem paired_len {α β : Type} {G : α → β → Prop} : ∀ {as : List α} {bs : List β}, Paired G as bs → as.length = bs.length
  | _, _, .nil => rfl
  | _, _, .cons _ t => by simp [paired_len t]
section
variable {X : Cx} {pos : Pos} {e : Expr} {es : List Expr} {is : List Nat} {t : TAD} {f : TD}
theorem fn_nil : FNs X [] [] := ⟨pgs_nil⟩
theorem fn_cons {x : Str} {p : Pos} (i : Nat) (hN : X.N.Nodup) (h2 : FNs X es is) (hi : X.N[i]? = some x := by rfl) (hx : Loc X.env.scope x := by first | exact .inl rfl | exact .inr rfl) (hf : X.fn x = true ∨ X.env.scope.names.lookup x = some .local := by first | exact .inl rfl | exact .inr rfl)
    (hs : (assignEach (.Name x p :: es) X.env).map (·.2) = assign (.Name x p) X.env :: (assignEach es X.env).map (·.2) := by rfl) : FNs X (.Name x p :: es) (i :: is) := ⟨pgs_cons (pg_name hN hi hx hf) h2.pgs hs⟩
theorem mono_par (h : MonoA t) : MonoS (dPar is t) := fun D D' ρ n le q => h _ _ _ _ (fun rs ρ' n' q => ⟨q.1, q.2.1, le.nx _ _ q.2.2⟩) q
/-- a, b = x, y of plain local names -/
theorem fs_par2 {x y : Str} {a b : Expr} {px py pt : Pos} {kt k2 pt2} (i j : Nat) (hc : X.calm = true) (hN : X.N.Nodup) (ha : FA X [a, b] t) (hi : X.N[i]? = some x := by rfl) (hj : X.N[j]? = some y := by rfl) (hij : i ≠ j := by decide)
    (hx : X.env.scope.names.lookup x = some .local := by rfl) (hy : X.env.scope.names.lookup y = some .local := by rfl)
    (hw : swappedStores [.Tuple [.Name x px, .Name y py] kt pt] (.Tuple [a, b] k2 pt2) X.env = pure (some [x, y]) := by rfl)
    (hs : swapsWithSole [.Tuple [.Name x px, .Name y py] kt pt] (.Tuple [a, b] k2 pt2) pos.line X.env = pure false := by rfl) :
    FS X (.Assign [.Tuple [.Name x px, .Name y py] kt pt] (.Tuple [a, b] k2 pt2) pos) (dPar [i, j] t) := by
  refine ⟨mono_par ha.mono, ps_weak (ps_par hc hN hi hj hij hx hy ha.pa hw hs) ?_⟩
  rintro D σ H ⟨c, ρ, n, Hs, d, q⟩
  refine ⟨c, ρ, n, Hs, d, ha.mono _ _ _ _ (fun rs ρ1 n1 q vs Hs1 H1 d1 R1 E1 od fr => ?_) q⟩
  obtain ⟨hl, nt, q⟩ := q
  have hv := paired_len R1
  match vs, hv, R1, od with
  | [v, w], _, R1, od => exact ⟨v, w, rfl, q _ _ _ (DRel.setAll [i, j] d1 R1 od nt) E1.sh⟩
  | [], hv, _, _ => exact absurd (hl.symm.trans hv) (by simp)
  | [_], hv, _, _ => exact absurd (hl.symm.trans hv) (by simp)
  | _ :: _ :: _ :: _, hv, _, _ => exact absurd (hl.symm.trans hv) (by simp)
theorem fs_par3 {x y z : Str} {a b c : Expr} {px py pz pt : Pos} {kt k2 pt2} (i j l : Nat) (hc : X.calm = true) (hN : X.N.Nodup) (ha : FA X [a, b, c] t) (hi : X.N[i]? = some x := by rfl) (hj : X.N[j]? = some y := by rfl) (hl' : X.N[l]? = some z := by rfl) (hij : i ≠ j := by decide) (hil : i ≠ l := by decide) (hjl : j ≠ l := by decide)
    (hx : X.env.scope.names.lookup x = some .local := by rfl) (hy : X.env.scope.names.lookup y = some .local := by rfl) (hz : X.env.scope.names.lookup z = some .local := by rfl)
    (hw : swappedStores [.Tuple [.Name x px, .Name y py, .Name z pz] kt pt] (.Tuple [a, b, c] k2 pt2) X.env = pure (some [x, y, z]) := by rfl)
    (hs : swapsWithSole [.Tuple [.Name x px, .Name y py, .Name z pz] kt pt] (.Tuple [a, b, c] k2 pt2) pos.line X.env = pure false := by rfl) :
    FS X (.Assign [.Tuple [.Name x px, .Name y py, .Name z pz] kt pt] (.Tuple [a, b, c] k2 pt2) pos) (dPar [i, j, l] t) := by
  refine ⟨mono_par ha.mono, ps_weak (ps_par3 hc hN hi hj hl' hij hil hjl hx hy hz ha.pa hw hs) ?_⟩
  rintro D σ H ⟨cc, ρ, n, Hs, d, q⟩
  refine ⟨cc, ρ, n, Hs, d, ha.mono _ _ _ _ (fun rs ρ1 n1 q vs Hs1 H1 d1 R1 E1 od fr => ?_) q⟩
  obtain ⟨hl, nt, q⟩ := q
  have hv := paired_len R1
  match vs, hv, R1, od with
  | [v, w, u], _, R1, od => exact ⟨v, w, u, rfl, q _ _ _ (DRel.setAll [i, j, l] d1 R1 od nt) E1.sh⟩
  | [], hv, _, _ => exact absurd (hl.symm.trans hv) (by simp)
  | [_], hv, _, _ => exact absurd (hl.symm.trans hv) (by simp)
  | [_, _], hv, _, _ => exact absurd (hl.symm.trans hv) (by simp)
  | _ :: _ :: _ :: _ :: _, hv, _, _ => exact absurd (hl.symm.trans hv) (by simp)
/-- a, b, .. = x, y, .. by way of a tuple -/
theorem fs_parT {ts : List Expr} {kt k2 : Nat} {pt pt2 : Pos} (hc : X.calm = true) (ha : FA X es t) (hn : FNs X ts is) (hlen : (assignEach ts X.env).length = is.length := by rfl) (hst : (assignEach ts X.env).findIdx? (·.1) = none := by rfl)
    (hs : swapsWithSole [.Tuple ts kt pt] (.Tuple es k2 pt2) pos.line X.env = pure false := by rfl) (hw : swappedStores [.Tuple ts kt pt] (.Tuple es k2 pt2) X.env = pure none := by rfl)
    (h1 : (assignEach [.Tuple ts kt pt] X.env).map (·.2) = [assign (.Tuple ts kt pt) X.env] := by rfl) (hle : is.length ≤ 1000 := by decide) :
    FS X (.Assign [.Tuple ts kt pt] (.Tuple es k2 pt2) pos) (dPar is t) := by
  refine ⟨mono_par ha.mono, ps_weak (ps_asg (pe_tup ha.pa) (pg_tup hc hn.pgs hlen hst) hs hw h1) ?_⟩
  rintro D σ H ⟨c, ρ, n, Hs, d, q⟩
  refine ⟨c, ρ, n, Hs, d, ha.mono _ _ _ _ (fun rs ρ1 n1 q vs Hs1 H1 d1 R1 E1 od fr => ?_) q⟩
  obtain ⟨hl, nt, q⟩ := q
  have hv : vs.length = is.length := (paired_len R1).symm.trans hl
  refine ⟨small20 (by omega), fun p hp => ⟨p, vs, rfl, SqT.of upd_same, hv, gNames_at hv ?_⟩⟩
  obtain ⟨d2, E2, _⟩ := d1.newOwn (o := .tup vs) hp
  have d3 := DRel.setAll is d2 (by
    have : ∀ {rs : List R} {vs : List V}, Paired (RRel c ρ1 σ Hs1 H1) rs vs → Paired (RRel c ρ1 σ Hs1 (upd H1 p (.tup vs))) rs vs := by
      intro rs vs h
      generalize hz : upd H1 p (HO.tup vs) = Z
      have hs : Same H1 Z := by rw [← hz]; exact same_upd hp
      clear hz
      induction h with
      | nil => exact .nil
      | cons h t ih => exact .cons (h.ext ⟨fun _ _ h => h, fun q o _ h => hs _ _ h, fun _ _ h _ => h, fun _ h => h⟩) ih
    exact this R1) od nt
  exact q _ _ _ d3 E1.sh
theorem paired_dat {c : Bs} {ρ : DEnv} {σ : SV} {Hs H : Hp} : ∀ {vs : List V} {ds : List PyData}, DqAll Hs vs ds → Paired (RRel c ρ σ Hs H) (ds.map R.dat) vs
  | _, _, .nil => .nil
  | _, _, .cons h t => .cons h (paired_dat t)
theorem noTmps_dat : ∀ ds : List PyData, noTmps (ds.map R.dat)
  | [] => trivial
  | _ :: r => noTmps_dat r
/-- a, b = e, e a tuple -/
def dUnp (is : List Nat) (f : TD) : TSD := fun D ρ n => f ρ n fun r ρ' n' => asT r fun ds => ds.length = is.length ∧ D.nx (setAll ρ' is (ds.map R.dat)) n'
theorem fs_unp {ts : List Expr} {kt : Nat} {pt : Pos} (hc : X.calm = true) (he : FE X e f) (hn : FNs X ts is) (hlen : (assignEach ts X.env).length = is.length := by rfl) (hst : (assignEach ts X.env).findIdx? (·.1) = none := by rfl)
    (hs : swapsWithSole [.Tuple ts kt pt] e pos.line X.env = pure false := by rfl) (hw : swappedStores [.Tuple ts kt pt] e X.env = pure none := by rfl)
    (h1 : (assignEach [.Tuple ts kt pt] X.env).map (·.2) = [assign (.Tuple ts kt pt) X.env] := by rfl) :
    FS X (.Assign [.Tuple ts kt pt] e pos) (dUnp is f) := by
  refine ⟨fun D D' ρ n le q => he.mono _ _ _ _ (fun r ρ' n' q => asT_mono (fun ds q => ⟨q.1, le.nx _ _ q.2⟩) q) q, ps_weak (ps_asg he.pe (pg_tup hc hn.pgs hlen hst) hs hw h1) ?_⟩
  rintro D σ H ⟨c, ρ, n, Hs, d, q⟩
  refine ⟨c, ρ, n, Hs, d, he.mono _ _ _ _ (fun r ρ1 n1 q v Hs1 H1 d1 R1 E1 fr => ?_) q⟩
  obtain ⟨ds, rfl, hl, q⟩ := asT_inv q
  cases R1 with
  | tup e1 q1 =>
    rename_i a vs
    have hv : vs.length = is.length := (dpAll_len q1).trans hl
    refine ⟨a, vs, rfl, (e1.mono d1.sub).sq, hv, gNames_at hv (q _ _ _ (DRel.setAll is d1 ?_ (fun i j o o' p h => ?_) ?_) E1.sh)⟩
    · exact paired_dat q1
    · simp only [List.getElem?_map] at h
      cases z : ds[i]? with
      | none => rw [z] at h; simp at h
      | some d => rw [z] at h; simp at h
    · exact noTmps_dat ds
end
/-! ### a def keeps its promise -/
def startD (N : List Str) (rs : List R) : DEnv := rs.map slOf ++ List.replicate (N.length - rs.length) .un
theorem fn_d {P : Program} {w : World} {K : PySem.W.Frag} {mg : Str → Option Value} {base : Heap} {x qual : Str} {st : Stmt} {f : Addr} {fd : FuncData} {N ps : List Str} {k : Nat} {s : SpD} {t : TSD} (F : Fun K x qual st f fd) (S : FnScope N ps (defScope st))
    (len : ∀ rs n Q, s rs n Q → rs.length = ps.length)
    (hbody : ∀ (cdv : Value) (A : Around) (outer : List PySem.Env) (s0 : Shared) (H : Hp) (E : XK), Room k (A.deeper (envOfC qual (defScope st) s0.heap.objs.size f cdv)) →
      FSs (cxOf CX0 P w K mg base N qual (defScope st) f cdv A outer s0 H E).nox (defBody st) t)
    (hs : ∀ rs n Q, s rs n Q → t { nx := fun _ n' => Q (.dat .none) n', rt := Q, bk := fun _ _ => False, ct := fun _ _ => False } (startD N rs) n) :
    FnOk P w K mg base CX0 (k + 1) f fd ps (spD s) := by
  refine F.ok S (fun vs H Q E h => ?_) (fun cdv A outer s0 H vs Q E hr h => ?_)
  · obtain ⟨B, Hs, rs, n, D, R1, _, q⟩ := h
    rw [← paired_len R1]
    exact len _ _ _ q
  · obtain ⟨B, Hs, rs, n, D, R1, ea, q⟩ := h
    have hb := hbody cdv A outer s0 H E hr
    refine ⟨_, hb.pss, ⟨B, H, Hs⟩, startD N rs, n, Hs, ?_, hb.mono { nx := fun _ n' => ∀ v Hs' H', DRel ⟨B, H, Hs⟩ [] n' [] Hs' H' → RRel ⟨B, H, Hs⟩ [] [] Hs' H' (.dat .none) v → Q v H', rt := fun r n' => ∀ v Hs' H', DRel ⟨B, H, Hs⟩ [] n' [] Hs' H' → RRel ⟨B, H, Hs⟩ [] [] Hs' H' r v → Q v H', bk := fun _ _ => False, ct := fun _ _ => False } _ _ _ ⟨fun ρ' n' h σ' Hs' H' D' s => h .non Hs' H' D'.noEnv (show Dq _ _ _ from .non), fun r n' h v Hs' H' D' R' => h v Hs' H' D' R', fun _ _ h => h.elim, fun _ _ h => h.elim⟩ (hs rs n _ q)⟩
    have hl := paired_len R1
    have no : ∀ (i : Nat) (o : Own), (startD N rs)[i]? ≠ some (.own o) := by
      intro i o h
      unfold startD at h
      rw [List.getElem?_append] at h
      split at h
      · rw [List.getElem?_map] at h
        cases z : rs[i]? with
        | none => rw [z] at h; cases h
        | some r =>
          rw [z] at h
          have : ∀ (rs : List R) (i : Nat), allN rs = true → rs[i]? = some r → slOf r ≠ .own o := by
            intro rs
            induction rs with
            | nil => intro i _ h; simp at h
            | cons r' t ih =>
              intro i ea h
              cases i with
              | zero =>
                simp at h; subst h
                cases r' <;> first | (intro z; cases z; done) | cases ea
              | succ i =>
                simp at h
                exact ih i (by cases r' <;> first | exact ea | cases ea) h
          exact this rs i ea z (Option.some.inj h)
      · rw [List.getElem?_replicate] at h
        split at h <;> cases h
    refine ⟨D.sub, D.base, D.fix, D.old, D.bag, ?_, fun i => ?_, fun i j o o' a h => absurd h (no i o)⟩
    · unfold startD L2.start
      simp [hl]
    · unfold startD L2.start
      rw [List.getElem?_append, List.getElem?_append]
      simp only [List.length_map]
      rw [hl]
      split
      · rename_i hi
        rw [List.getElem?_map, List.getElem?_map]
        have : ∀ {rs : List R} {vs : List V}, Paired (RObs ⟨B, H, Hs⟩ Hs H) rs vs → allN rs = true → ∀ i : Nat, SlotOk ⟨B, H, Hs⟩ Hs H (rs[i]?.map slOf) (vs[i]?.map some) := by
          intro rs vs h
          induction h with
          | nil => intro _ i; simp [SlotOk]
          | cons h t ih =>
            rename_i r v rs vs
            intro ea i
            cases i with
            | zero =>
              cases r with
              | dat d => exact ⟨v, rfl, h⟩
              | raw d => cases h; rfl
              | bag => obtain ⟨b, e1, rfl⟩ := h; exact ⟨b, e1, rfl⟩
              | tmp d => cases ea
              | own d => cases ea
            | succ i => exact ih (by cases r <;> first | exact ea | cases ea) i
        exact this R1 ea i
      · rw [List.getElem?_replicate]
        split <;> trivial
end DL

namespace DL
open PySem PySem.Spec PyProof.Rows L2
/-! ### a def of the text that may be called -/
structure Cal (P : Program) (w : World) (K : PySem.W.Frag) (mg : Str → Option Value) (base : Heap) (x : Str) (ps : List Str) (k : Nat) (s : SpD) : Prop where
  ex : ∃ f fd, FnOk P w K mg base CX0 k f fd ps (spD s) ∧ mg x = some (.ref f) ∧ PySem.W.keepIn K (.ref f) = true ∧ Binds K fd ps []
section
variable {P : Program} {w : World} {K : PySem.W.Frag} {mg : Str → Option Value} {base : Heap} {x qual : Str} {st : Stmt} {f : Addr} {fd : FuncData} {ps : List Str} {k : Nat} {s : SpD}
theorem cal_mk (F : Fun K x qual st f fd) (hm : mg x = some (.ref f)) (hb : Binds K fd ps []) (ok : FnOk P w K mg base CX0 k f fd ps (spD s)) : Cal P w K mg base x ps k s := ⟨f, fd, ok, hm, F.kp, hb⟩
end
theorem fe_calls {X : Cx} {x : Str} {p pos : Pos} {e : Expr} {es : List Expr} {t : TAD} {k : Nat} {ps : List Str} {s : SpD} (C : Cal X.prog X.w X.K X.mg X.base x ps k s) (m : MonoSp s) (hr : Room k X.A)
    (ha : FA X (e :: es) t) (hg : Gl X x := by rfl) (hdb : (x == ("__debug__" : Str)) = false := by decide) (he : starEach (e :: es) X.env = (false, eval e X.env) :: starEach es X.env := by rfl) (hpl : (backTo pos (starEach es X.env)).any (·.1) = false := by rfl) :
    FE X (.Call (.Name x p) (e :: es) [] pos) (dCall s t) := by
  obtain ⟨f, fd, F, hm, hk, hb⟩ := C.ex
  exact fe_call F m hr hm hk hb ha hg hdb he hpl
/-! ### the drawer of numbers -/
def dBagIx (i : Nat) (k : Int) : TD := fun ρ n Q => match ρ[i]? with
  | some .bag => ∀ x : Int, (k = 2 → 0 ≤ x ∧ x ≤ n) → Q (vI x) ρ n
  | _ => False
def dBagSet (i : Nat) (k : Int) (f : TD) : TSD := fun D ρ n => f ρ n fun r ρ1 n1 => asI r fun x => match ρ1[i]? with
  | some .bag => if k = 2 then 0 ≤ x ∧ ∃ m : Nat, x ≤ m ∧ D.nx ρ1 m else D.nx ρ1 n1
  | _ => False
section
variable {X : Cx} {x : Str} {xpos ipos pos : Pos} {ik : Nat} {e : Expr} {f : TD}
theorem fe_bagIx (i : Nat) (k : Int) (hk : k = 0 ∨ k = 1 ∨ k = 2) (hN : X.N[i]? = some x := by rfl) (hv : Vis X.env.scope x := by first | exact Or.inl rfl | exact Or.inr (Or.inl rfl) | exact Or.inr (Or.inr rfl)) (hd : (x == ("__debug__" : Str)) = false := by decide)
    (hcd : (x == ("__classdict__" : Str)) = false := by decide) : FE X (.Subscript (.Name x xpos) (.Constant (.int k) ik ipos) pos) (dBagIx i k) := by
  refine ⟨fun ρ n Q Q' m h => ?_, pe_weak (pe_ix ix_list (pe_var hN hv hd hcd) pe_int (fun _ _ => rfl)) ?_⟩
  · unfold dBagIx at h ⊢; split at h
    · exact fun x hx => m _ _ _ (h x hx)
    · exact h.elim
  · rintro σ H Q ⟨c, ρ, n, Hs, D, q⟩
    unfold dBagIx at q; split at q
    · rename_i ei
      have s := D.slot i
      rw [ei] at s
      obtain ⟨b, e1, e2⟩ := s
      obtain ⟨⟨x, y, z, hb, z0, zn⟩, _⟩ := D.bag b e1
      rcases hk with rfl | rfl | rfl
      · exact ⟨_, e2, b, _, _, .int x, rfl, rfl, SqL.of hb, rfl, q x (fun h => by omega) _ _ _ D (.int _) Ext.refl trivial⟩
      · exact ⟨_, e2, b, _, _, .int y, rfl, rfl, SqL.of hb, rfl, q y (fun h => by omega) _ _ _ D (.int _) Ext.refl trivial⟩
      · exact ⟨_, e2, b, _, _, .int z, rfl, rfl, SqL.of hb, rfl, q z (fun h => ⟨z0, zn⟩) _ _ _ D (.int _) Ext.refl trivial⟩
    · exact q.elim
theorem fs_bagSet (i : Nat) (k : Int) (hk : k = 0 ∨ k = 1 ∨ k = 2) (he : FE X e f) (hN : X.N[i]? = some x := by rfl) (hv : Vis X.env.scope x := by first | exact Or.inl rfl | exact Or.inr (Or.inl rfl) | exact Or.inr (Or.inr rfl)) (hd : (x == ("__debug__" : Str)) = false := by decide)
    (hcd : (x == ("__classdict__" : Str)) = false := by decide)
    (ha : ∀ v, assign (.Subscript (.Name x xpos) (.Constant (.int k) ik ipos) pos) X.env v = (do
      let ov ← holding [v] (eval (.Name x xpos) X.env)
      let iv ← holding [v, ov] (eval (.Constant (.int k) ik ipos) X.env)
      standAt pos
      holding [v, ov, iv] (setItem ov iv v)
      release [v, ov, iv] []) := by intro _; rfl) {spos : Pos}
    (hs : swapsWithSole [.Subscript (.Name x xpos) (.Constant (.int k) ik ipos) pos] e spos.line X.env = pure false := by rfl) (hw : swappedStores [.Subscript (.Name x xpos) (.Constant (.int k) ik ipos) pos] e X.env = pure none := by rfl)
    (h1 : (assignEach [.Subscript (.Name x xpos) (.Constant (.int k) ik ipos) pos] X.env).map (·.2) = [assign (.Subscript (.Name x xpos) (.Constant (.int k) ik ipos) pos) X.env] := by rfl) :
    FS X (.Assign [.Subscript (.Name x xpos) (.Constant (.int k) ik ipos) pos] e spos) (dBagSet i k f) := by
  refine ⟨fun D D' ρ n le h => he.mono _ _ _ _ (fun r ρ' n' h => asI_mono (fun x h => ?_) h) h, ps_weak (ps_asg he.pe (pg_sub (pe_var hN hv hd hcd) pe_int set_list ha) hs hw h1) ?_⟩
  · revert h; split
    · by_cases hk2 : k = 2
      · rw [if_pos hk2, if_pos hk2]
        exact fun ⟨h1, m, h2, h3⟩ => ⟨h1, m, h2, le.nx _ _ h3⟩
      · rw [if_neg hk2, if_neg hk2]
        exact le.nx _ _
    · exact id
  · rintro D σ H ⟨c, ρ, n, Hs, d, q⟩
    refine ⟨c, ρ, n, Hs, d, he.mono _ _ _ _ (fun r ρ1 n1 q v Hs1 H1 d1 R1 E1 F1 => ?_) q⟩
    obtain ⟨u, rfl, q2⟩ := asI_inv q
    cases R1
    split at q2
    · rename_i ei
      have s := d1.slot i
      rw [ei] at s
      obtain ⟨b, e1, e2⟩ := s
      obtain ⟨⟨x, y, z, hb, z0, zn⟩, hbs⟩ := d1.bag b e1
      have key : ∀ (xs : List V) (m : Nat), (∃ x y z : Int, xs = [.int x, .int y, .int z] ∧ 0 ≤ z ∧ z ≤ m) → DRel c ρ1 m σ Hs1 (upd H1 b (.lst xs)) := by
        rintro xs m ⟨x', y', z', rfl, w0, w1⟩
        refine ⟨fun a o h => ?_, d1.base, d1.fix, fun a o hB h => ?_, fun b' hb' => ?_, d1.len, fun j => ?_, d1.dist⟩
        · rw [upd_ne (ne_of_none h hbs)]; exact d1.sub _ _ h
        · rw [upd_ne (fun z => hB (by rw [z]; exact e1))]; exact d1.old a o hB h
        · rw [e1] at hb'; cases hb'
          exact ⟨⟨x', y', z', upd_same, w0, w1⟩, hbs⟩
        · have s := d1.slot j
          cases ej : ρ1[j]? with
          | none => trivial
          | some sl =>
            rw [ej] at s
            cases sl with
            | un => trivial
            | dat dd => exact s
            | raw v => exact s
            | bag => exact s
            | own o =>
              obtain ⟨a, z1, ho, g1, g2, g3, g4, g5⟩ := s
              exact ⟨a, z1, ho, by rw [upd_ne (fun z => g5 (by rw [z]; exact e1))]; exact g1, g2, g3, g4, g5⟩
      rcases hk with rfl | rfl | rfl
      · rw [if_neg (by omega)] at q2
        exact ⟨_, e2, b, _, 0, 0, rfl, rfl, hb, rfl, q2 _ _ _ (key _ n1 ⟨u, y, z, rfl, z0, zn⟩) E1.sh⟩
      · rw [if_neg (by omega)] at q2
        exact ⟨_, e2, b, _, 1, 1, rfl, rfl, hb, rfl, q2 _ _ _ (key _ n1 ⟨x, u, z, rfl, z0, zn⟩) E1.sh⟩
      · rw [if_pos rfl] at q2
        obtain ⟨h0, m, h1, h2⟩ := q2
        exact ⟨_, e2, b, _, 2, 2, rfl, rfl, hb, rfl, h2 _ _ _ (key _ m ⟨x, y, u, rfl, h0, h1⟩) E1.sh⟩
    · exact q2.elim
end
/-! ### isinstance(x, (bool, list, tuple)) -/
def dIsiT (Ts : List String) (f : TD) : TD := fun ρ n Q => f ρ n fun r ρ' n' => asD r fun d => (match d with | .dict _ => False | _ => True) ∧ Q (vB (Ts.any fun T => isT T d)) ρ' n'
theorem fe_isiT3 {X : Cx} {e : Expr} {f : TD} {A B C : Str} {a b c : String} {p p1 p2 p3 p4 pos : Pos} {k : Nat} (hm : X.mg "isinstance" = none) (he : FE X e f) (ha : X.mg A = none) (hb : X.mg B = none) (hc : X.mg C = none)
    (va : bootBuiltins A = some (.type a)) (vb : bootBuiltins B = some (.type b)) (vc : bootBuiltins C = some (.type c)) (oa : okT a = true) (ob : okT b = true) (oc : okT c = true) (hg : Gl X "isinstance" := by rfl) (ga : Gl X A := by rfl) (gb : Gl X B := by rfl) (gc : Gl X C := by rfl)
    (na : A ≠ "__name__" := by decide) (nb : B ≠ "__name__" := by decide) (nc : C ≠ "__name__" := by decide) (da : (A == ("__debug__" : Str)) = false := by decide) (db : (B == ("__debug__" : Str)) = false := by decide) (dc : (C == ("__debug__" : Str)) = false := by decide)
    (h1 : starEach [e, .Tuple [.Name A p1, .Name B p2, .Name C p3] k p4] X.env = (false, eval e X.env) :: starEach [.Tuple [.Name A p1, .Name B p2, .Name C p3] k p4] X.env := by rfl)
    (h2 : (backTo pos (starEach [.Tuple [.Name A p1, .Name B p2, .Name C p3] k p4] X.env)).any (·.1) = false := by rfl) :
    FE X (.Call (.Name "isinstance" p) [e, .Tuple [.Name A p1, .Name B p2, .Name C p3] k p4] [] pos) (dIsiT [a, b, c] f) := by
  refine ⟨fun ρ n Q Q' m h => he.mono _ _ _ _ (fun r ρ' n' h => asD_mono (fun d h => ⟨h.1, m _ _ _ h.2⟩) h) h, pe_weak (pe_callB call_isiT hg hm (by decide +kernel) (pa_cons he.pe (pa_cons (pe_tup (pa_cons (pe_bltn (v := .ty a) ga ha va rfl na da) (pa_cons (pe_bltn (v := .ty b) gb hb vb rfl nb db) (pa_cons (pe_bltn (v := .ty c) gc hc vc rfl nc dc) pa_nil)))) pa_nil) h1) (he := h1) (hpl := h2)) ?_⟩
  rintro σ H Q ⟨cc, ρ, n, Hs, D, q⟩
  refine ⟨cc, ρ, n, Hs, D, he.mono _ _ _ _ (fun r ρ1 n1 q v Hs1 H1 D1 R1 E1 F1 => ?_) q⟩
  refine ⟨small20 (Nat.le_trans (m := 3) (Nat.le_refl _) (by decide)), fun T hT => ?_⟩
  obtain ⟨D2, E2, g1, g2, g3, g4⟩ := D1.newOwn (o := .tup [.ty a, .ty b, .ty c]) hT
  obtain ⟨d, hd, nd, q2⟩ := asD_at (R1.obs.ext E2.sh E2.st) D2.sub q
  obtain ⟨t, t1, t2⟩ := isi_kit (K := X.K) hd
  refine ⟨v, T, [.ty a, .ty b, .ty c], t, [.type a, .type b, .type c], [a, b, c].any fun T => isT T d, rfl, upd_same, .cons (.ty a) (.cons (.ty b) (.cons (.ty c) .nil)), t1, ?_, ?_⟩
  · refine kitAny_cons (t2 a oa) (fun z1 => kitAny_cons (t2 b ob) (fun z2 => kitAny_cons (t2 c oc) (fun z3 => ?_) fun z3 => ?_) fun z2 => ?_) fun z1 => ?_
    · rw [kitAny_nil]; simp [z1, z2, z3]
    · simp [z3]
    · simp [z2]
    · simp [z1]
  · exact q2 _ _ _ D2 (.bl _) (E1.trans D1 E2) trivial
/-! ### the law's own loop over its drawers -/
/-- what the maker of the drawers hands back -/
def spBags (K : PySem.W.Frag) : Sp := fun vs H Q _ => ∃ (a : Addr) (ns : List Int) (m : Nat), vs = [.ref a, .int m] ∧ SqL K H a (ns.map V.int) ∧ ns.length ≤ 1000 ∧ m ≤ 1000 ∧
  ∀ H' p (bs : List Addr), Same H H' → H' p = some (.lst (bs.map V.ref)) → bs.Nodup → (∀ b ∈ bs, BagAt H' b 1000000) → Q (.ref p) H'
/-- one drawer is open -/
def bagEnv (n ib : Nat) : DEnv := (List.replicate n Sl.un).set ib .bag
theorem bag_start {β : Addr} {N ib : Nat} {n : Nat} {σ : SV} {H : Hp} (hb : BagAt H β n) (hl : σ.length = N) (hs : σ[ib]? = some (some (.ref β))) : DRel ⟨some β, H, fun _ => none⟩ (bagEnv N ib) n σ (fun _ => none) H := by
  refine ⟨fun _ _ h => (by cases h), fun _ _ h => (by cases h), fun _ _ => rfl, fun _ _ _ h => h, fun b e => ?_, by simp [bagEnv, hl], fun i => ?_, fun i j o o' a h => ?_⟩
  · cases e; exact ⟨hb, rfl⟩
  · cases e : (bagEnv N ib)[i]? with
    | none => trivial
    | some s =>
      rcases set_get? e with ⟨rfl, rfl⟩ | ⟨_, e⟩
      · exact ⟨β, rfl, hs⟩
      · rw [List.getElem?_replicate] at e
        split at e
        · cases e; trivial
        · cases e
  · rcases set_get? h with ⟨_, e⟩ | ⟨_, e⟩
    · cases e
    · rw [List.getElem?_replicate] at e
      split at e <;> cases e
def lawEnds : EndsD := { nx := fun _ _ => False, rt := fun r _ => r = vB true, bk := fun _ _ => False, ct := fun _ _ => False }
def bodyEnds (N : Nat) : EndsD := { nx := fun ρ _ => ρ.length = N, rt := fun _ _ => False, bk := fun _ _ => False, ct := fun ρ _ => ρ.length = N }
theorem un_start {N : Nat} {σ : SV} {H : Hp} (hl : σ.length = N) : DRel ⟨none, H, fun _ => none⟩ (List.replicate N Sl.un) 0 σ (fun _ => none) H := by
  refine ⟨fun _ _ h => (by cases h), fun _ _ h => (by cases h), fun _ _ => rfl, fun _ _ _ h => h, fun b e => (by cases e), by simp [hl], fun i => ?_, fun i j o o' a h => ?_⟩
  · rw [List.getElem?_replicate]; split <;> trivial
  · rw [List.getElem?_replicate] at h
    split at h <;> cases h
/-- the law: for bag in _law_bags(script, k): body; rest -/
theorem law_read {K : PySem.W.Frag} {N : List Str} {ib : Nat} {tb tr : TSD} {m : Nat} {a : Addr} {ns : List Int} {H : Hp} {Q : VK} (hib : ib < N.length) (mb : MonoS tb) (mr : MonoS tr) (hS : SqL K H a (ns.map V.int)) (hn : ns.length ≤ 1000) (hm : m ≤ 1000)
    (hb : ∀ n, n ≤ 1000000 → tb (bodyEnds N.length) (bagEnv N.length ib) n) (hr : tr lawEnds (List.replicate N.length Sl.un) 0) (hQ : ∀ H', Q (.bl true) H') :
    tSeq (tFor (iList K (tCall (spBags K) [] E0 (tCons (tVar 0) (tCons (tC (.int m)) tNil)))) (gName ib) (teS tb)) (teS tr) { nx := fun _ H' => Q .non H', rt := Q } (L2.start N [.ref a]) H := by
  have l1 : (L2.start N [V.ref a]).length = N.length := by
    unfold L2.start; simp; omega
  refine ⟨.ref a, rfl, a, ns, m, rfl, hS, hn, hm, fun H1 p bs s1 hp nd hbs => ⟨p, rfl, ⟨_, SqL.of hp⟩, ?_⟩⟩
  have key := for_list (K := K) (a := p) (xs := bs.map V.ref) (g := gName ib) (tb := teS tb) (D := { nx := teS tr { nx := fun _ H' => Q .non H', rt := Q }, rt := Q })
    (σ := L2.start N [V.ref a]) (H := H1) (fun i σ H => σ.length = N.length ∧ H p = some (.lst (bs.map V.ref)) ∧ ∀ j b, i ≤ j → bs[j]? = some b → BagAt H b 1000000) ⟨l1, hp, fun j b _ h => hbs b (List.mem_of_getElem? h)⟩
    (fun i σ H _ h => SqL.of h.2.1) ?_ ?_
  · exact key
  · rintro i x σ H2 hx ⟨hl, h1, h2⟩
    rw [List.getElem?_map] at hx
    cases eb : bs[i]? with
    | none => rw [eb] at hx; cases hx
    | some β =>
      rw [eb] at hx; cases hx
      have hβ := h2 i β (Nat.le_refl _) eb
      have hlt : i < bs.length := by
        rcases Nat.lt_or_ge i bs.length with q | q
        · exact q
        · rw [List.getElem?_eq_none q] at eb; cases eb
      have pβ : p ≠ β := by
        intro z; subst z
        obtain ⟨x, y, z, e, _⟩ := hβ
        rw [h1] at e
        cases bs with
        | nil => cases eb
        | cons c r => simp at e
      have D0 := bag_start (N := N.length) (ib := ib) (n := 1000000) (σ := σ.set ib (some (.ref β))) hβ (by simp [hl]) (by rw [List.getElem?_set_self (by omega)])
      have after : ∀ (ρ' : DEnv) (n' : Nat) (σ' : SV) (Hs' H' : Hp), ρ'.length = N.length → DRel ⟨some β, H2, fun _ => none⟩ ρ' n' σ' Hs' H' → σ'.length = N.length ∧ H' p = some (.lst (bs.map V.ref)) ∧ ∀ j b, i + 1 ≤ j → bs[j]? = some b → BagAt H' b 1000000 := by
        intro ρ' n' σ' Hs' H' hl' d
        refine ⟨d.len.symm.trans hl', d.old p _ (fun z => pβ (by injection z with z; exact z.symm)) h1, fun j b hj hb' => ?_⟩
        obtain ⟨x, y, z, e, e2⟩ := h2 j b (by omega) hb'
        refine ⟨x, y, z, d.old b _ (fun w => ?_) e, e2⟩
        injection w with w
        subst w
        have := nd_ix nd eb hb'
        omega
      refine ⟨_, _, _, _, D0, mb (bodyEnds N.length) _ _ _ ⟨fun ρ' n' hl' σ' Hs' H' d s => after ρ' n' σ' Hs' H' hl' d, fun r n' h => h.elim, fun _ _ h => h.elim, fun ρ' n' hl' σ' Hs' H' d s => after ρ' n' σ' Hs' H' hl' d⟩ (hb _ (Nat.le_refl _))⟩
  · rintro σ H2 ⟨hl, _, _⟩
    refine ⟨_, _, _, _, un_start hl, mr lawEnds _ _ _ ⟨fun _ _ h => h.elim, fun r n' h v Hs' H' d R' => ?_, fun _ _ h => h.elim, fun _ _ h => h.elim⟩ hr⟩
    subst h
    cases R'
    exact hQ _
end DL

namespace DL
open PySem PySem.Spec PyProof.Rows L2
/-- the end of a law row, with what the head tells of the loose names -/
theorem walk_ofX {l : PySem.W.OpenLaw} {n k : Nat} {q : Program} {loose : List Str} {XP : (Str → Option Value) → Heap → Prop} {YP : World → Heap → Prop} {d : DefRec} {K : Params → PySem.W.Frag} {CX : World → CXT} {sp : World → Sp} {x : Str}
    (hn : l.most = some n) (hn2 : n ≤ sizeLine) (hdf : d.params.defaults = []) (hr : Room k callerA)
    (hY : ∀ (w : World) (h : Heap), YP w h → (K w.params).In h)
    (F : ∀ (w : World) (mg : Str → Option Value) (fa : Addr) (h : Heap), (K w.params).In h → h.Ns mainGlobals mg → XP mg h → mg d.name = some (.ref fa) →
      ∃ fd : FuncData, (∀ (s : Shared) (u : Value), BindsTo s fd ⟨[u], []⟩ [(x, u)]) ∧
        ∀ base : Heap, (K w.params).In base → base.Ns mainGlobals mg → FnOk l.prog w (K w.params) mg base (CX w) k fa fd [x] (sp w))
    (hsp : ∀ (w : World) (H : Hp) (a : Addr) (ns : List Int), ns.length ≤ n → Only H → SqL (K w.params) H a (ns.map V.int) → sp w [.ref a] H (fun v _ => v = .bl true) fun _ _ _ => False)
    (hCX : ∀ (w : World) (H : Hp) (s : Shared) (e : Value) (s' : Shared), CX w [] H s (fun _ _ _ => False) e s' → False) :
    PySem.W.WalkO q loose XP YP l.row.toRowW d [] (fun f vs => PySem.call f vs) := by
  refine Att.attach_call hn hdf fun w s₀ s₁ mg mb fa o pm cd doc a vs ns G Y ho hd hcd hmg hobj hints hlen hg => ?_
  have KX := hY w _ Y
  obtain ⟨fd, hb, hF⟩ := F w mg fa _ KX G.T.g G.X hmg
  exact law_call KX G.T.g G.T.b G.T.builtins G.T.nolimit hg hobj hints (Nat.le_trans hlen hn2) hr hF hb (fun H hO hS => hsp w H a ns hlen hO hS) fun H e s' => hCX w H s₁ e s'
theorem loose_int {p : Program} {lv : List (Str × PySem.W.WData)} {mg : Str → Option Value} {h : Heap} {x : Str} {i : Int} (X : PySem.W.XL p lv mg h) (hm : (x, PySem.W.WData.int i) ∈ lv) : ∃ t, mg x = some (.int i t) := by
  obtain ⟨v, a, b⟩ := X.2.val _ hm
  cases b
  exact ⟨_, a⟩
/-! ### loops by their invariants -/
theorem forGo_inv {g : TGD} {tb : TSD} {D : EndsD} (I : List PyData → DEnv → Nat → Prop) (hnil : ∀ ρ n, I [] ρ n → D.nx ρ n)
    (hcons : ∀ d r ρ n (k : DEnv → Nat → Prop), I (d :: r) ρ n → (∀ ρ' n', I r ρ' n' → k ρ' n') → g d ρ fun ρ' => tb { nx := k, rt := D.rt, bk := D.nx, ct := k } ρ' n) :
    ∀ {ds : List PyData} {ρ : DEnv} {n : Nat}, I ds ρ n → dForGo g tb D ds ρ n
  | [], ρ, n, h => hnil ρ n h
  | d :: r, ρ, n, h => hcons d r ρ n (dForGo g tb D r) h fun ρ' n' h' => forGo_inv I hnil hcons h'
theorem while_inv {c : TTD} {tb : TSD} {D : EndsD} {ρ : DEnv} {n : Nat} (I : Nat → DEnv → Nat → Prop) (m : Nat) (h0 : I m ρ n)
    (hs : ∀ m ρ n (k : DEnv → Nat → Prop), I m ρ n → (∀ m' ρ' n', m' < m → I m' ρ' n' → k ρ' n') → c ρ n fun b ρ' n' => if b = true then tb { nx := k, rt := D.rt, bk := D.nx, ct := k } ρ' n' else D.nx ρ' n') : dWhile c tb D ρ n :=
  ⟨I, ⟨m, h0⟩, fun m ρ n h => hs m ρ n _ h fun m' ρ' n' hm h' => ⟨m', hm, h'⟩⟩
/-- one turn of a comprehension -/
def lcTurn (g : TGD) (tt : TTD) (te : TD) (vs : List Nat) (ρ : DEnv) (d : PyData) (acc : List PyData) (n : Nat) (kk : List PyData → Nat → Prop) : Prop :=
  g d (wipeD ρ vs) fun ρ2 => tt ρ2 n fun b ρ3 n3 => if b = true then te ρ3 n3 fun rr ρ4 n4 => toN rr fun r' => match r' with
      | .dat d' => wipeD ρ4 vs = wipeD ρ vs ∧ kk (acc ++ [d']) n4
      | _ => False
    else wipeD ρ3 vs = wipeD ρ vs ∧ kk acc n3
theorem lcGo_inv {g : TGD} {tt : TTD} {te : TD} {vs : List Nat} {ρ : DEnv} {k : List PyData → Nat → Prop} (I : List PyData → List PyData → Nat → Prop) (hnil : ∀ acc n, I [] acc n → k acc n)
    (hcons : ∀ d r acc n (kk : List PyData → Nat → Prop), I (d :: r) acc n → (∀ acc' n', I r acc' n' → kk acc' n') → lcTurn g tt te vs ρ d acc n kk) :
    ∀ {ds acc : List PyData} {n : Nat}, I ds acc n → dLcGo g tt te vs ds acc ρ n k
  | [], acc, n, h => hnil acc n h
  | d :: r, acc, n, h => hcons d r acc n (fun acc' n' => dLcGo g tt te vs r acc' ρ n' k) h fun acc' n' h' => lcGo_inv I hnil hcons h'
/-- a comprehension of data alone: what is kept, what is made of it -/
theorem lcGo_pure {g : TGD} {tt : TTD} {te : TD} {vs : List Nat} {ρ : DEnv} {k : List PyData → Nat → Prop} {n : Nat} {ds : List PyData} (p : PyData → Bool) (f : PyData → PyData)
    (hcons : ∀ d ∈ ds, ∀ acc (kk : List PyData → Nat → Prop), (p d = true → kk (acc ++ [f d]) n) → (p d = false → kk acc n) → lcTurn g tt te vs ρ d acc n kk)
    (hk : k ((ds.filter p).map f) n) : dLcGo g tt te vs ds [] ρ n k := by
  refine lcGo_inv (I := fun r acc n' => n' = n ∧ ∃ pre, ds = pre ++ r ∧ acc = (pre.filter p).map f) (fun acc n' h => ?_) (fun d r acc n' kk h hh => ?_) ⟨rfl, [], rfl, rfl⟩
  · obtain ⟨rfl, pre, e, rfl⟩ := h
    rw [List.append_nil] at e
    subst e
    exact hk
  · obtain ⟨rfl, pre, e, rfl⟩ := h
    refine hcons d (by rw [e]; simp) _ kk (fun hp => hh _ _ ⟨rfl, pre ++ [d], by rw [e]; simp, by simp [hp]⟩) (fun hp => hh _ _ ⟨rfl, pre ++ [d], by rw [e]; simp, by simp [hp]⟩)
theorem lcGo_map {g : TGD} {te : TD} {vs : List Nat} {ρ : DEnv} {k : List PyData → Nat → Prop} {n : Nat} {ds : List PyData} (f : PyData → PyData)
    (hcons : ∀ d ∈ ds, ∀ acc (kk : List PyData → Nat → Prop), kk (acc ++ [f d]) n → lcTurn g dYes te vs ρ d acc n kk)
    (hk : k (ds.map f) n) : dLcGo g dYes te vs ds [] ρ n k :=
  lcGo_pure (fun _ => true) f (fun d hd acc kk h _ => hcons d hd acc kk (h rfl)) (by rw [List.filter_eq_self.mpr (fun _ _ => rfl)]; exact hk)
/-! ### promises that tell one answer -/
def pureSp (P : List R → Prop) (F : List R → R) : SpD := fun rs n Q => P rs ∧ Q (F rs) n
theorem mono_pure {P : List R → Prop} {F : List R → R} : MonoSp (pureSp P F) := fun _ _ _ _ m h => ⟨h.1, m _ _ h.2⟩
/-- ints out of data -/
def unI (ds : List PyData) : List Int := ds.map fun d => match d with | .int i => i | _ => 0
theorem unI_map (ns : List Int) : unI (ns.map PyData.int) = ns := by
  unfold unI; rw [List.map_map]; exact List.map_id'' (fun _ => rfl) ns
def isI (ds : List PyData) : Prop := ∃ ns : List Int, ds = ns.map PyData.int
theorem isI_map (ns : List Int) : isI (ns.map PyData.int) := ⟨ns, rfl⟩
theorem map_unI {ds : List PyData} (h : isI ds) : (unI ds).map PyData.int = ds := by
  obtain ⟨ns, rfl⟩ := h; rw [unI_map]
/-! ### places -/
theorem atI0 {α : Type} (x : α) (l : List α) : atI (x :: l) 0 = some x := atI_nat (j := 0) rfl
theorem atI1 {α : Type} (x y : α) (l : List α) : atI (x :: y :: l) 1 = some y := atI_nat (j := 1) rfl
theorem atI2 {α : Type} (x y z : α) (l : List α) : atI (x :: y :: z :: l) 2 = some z := atI_nat (j := 2) rfl
theorem atI3 {α : Type} (x y z u : α) (l : List α) : atI (x :: y :: z :: u :: l) 3 = some u := atI_nat (j := 3) rfl
theorem atI_m1 {α : Type} (l : List α) : atI l (-1) = l.getLast? := by
  unfold atI ixN
  rw [List.getLast?_eq_getElem?]
  rw [if_neg (by decide)]
  by_cases h : -(l.length : Int) ≤ -1
  · rw [if_pos h]
    have : (-1 + (l.length : Int)).toNat = l.length - 1 := by omega
    rw [this]; rfl
  · rw [if_neg h]
    have : l.length = 0 := by omega
    rw [List.eq_nil_of_length_eq_zero this]; rfl
theorem atI_of {α : Type} {l : List α} {i : Int} {x : α} (h0 : 0 ≤ i) (h : l[i.toNat]? = some x) : atI l i = some x := by
  have := atI_nat h
  rwa [Int.toNat_of_nonneg h0] at this
theorem cut_to {α : Type} (l : List α) (k : Int) (h : 0 ≤ k) : cutL l none (some k) = l.take k.toNat := by
  unfold cutL
  rw [HT.sIx_none]
  obtain ⟨m, rfl⟩ := Int.eq_ofNat_of_zero_le h
  rw [show HT.sIx l.length l.length (some (m : Int)) = min m l.length from HT.sIx_nat _ _ _]
  simp
theorem cut_from {α : Type} (l : List α) (k : Int) (h : 0 ≤ k) : cutL l (some k) none = l.drop k.toNat := by
  unfold cutL
  rw [HT.sIx_none]
  obtain ⟨m, rfl⟩ := Int.eq_ofNat_of_zero_le h
  rw [show HT.sIx l.length 0 (some (m : Int)) = min m l.length from HT.sIx_nat _ _ _]
  rcases Nat.le_total m l.length with q | q
  · rw [Nat.min_eq_left q, Int.toNat_natCast]
    exact List.take_of_length_le (by simp)
  · rw [Nat.min_eq_right q, Int.toNat_natCast, List.drop_of_length_le q]
    simp
theorem cut_mid {α : Type} (l : List α) (a b : Int) (h : 0 ≤ a) (hb : 0 ≤ b) : cutL l (some a) (some b) = (l.take b.toNat).drop a.toNat := by
  unfold cutL
  obtain ⟨m, rfl⟩ := Int.eq_ofNat_of_zero_le h
  obtain ⟨k, rfl⟩ := Int.eq_ofNat_of_zero_le hb
  rw [show HT.sIx l.length 0 (some (m : Int)) = min m l.length from HT.sIx_nat _ _ _, show HT.sIx l.length l.length (some (k : Int)) = min k l.length from HT.sIx_nat _ _ _]
  simp only [Int.toNat_natCast]
  rw [List.drop_take]
  rcases Nat.le_total m l.length with q | q
  · rw [Nat.min_eq_left q]
    rcases Nat.le_total k l.length with r | r
    · rw [Nat.min_eq_left r]
    · rw [Nat.min_eq_right r, List.take_of_length_le (by simp), List.take_of_length_le (by simp; omega)]
  · rw [Nat.min_eq_right q, List.drop_of_length_le (Nat.le_refl _), List.drop_of_length_le q]
    simp
theorem ixN_m1 {n : Nat} (h : 0 < n) : ixN n (-1) = some (n - 1) := by
  unfold ixN
  rw [if_neg (by decide), if_pos (by omega)]
  congr 1; omega
theorem set_last {α : Type} {l : List α} (h : l ≠ []) (x : α) : l.set (l.length - 1) x = l.dropLast ++ [x] := by
  induction l with
  | nil => exact absurd rfl h
  | cons a r ih =>
    cases r with
    | nil => rfl
    | cons b t =>
      show a :: ((b :: t).set ((b :: t).length - 1) x) = _
      rw [ih (by simp)]
      rfl
theorem rng_drop {lo hi : Int} {i : Nat} {d : PyData} {r : List PyData} (h : (rng lo hi).drop i = d :: r) : d = .int (lo + (i : Int)) ∧ r = (rng lo hi).drop (i + 1) ∧ i < (hi - lo).toNat := by
  have hl : (rng lo hi).length = (hi - lo).toNat := by simp [rng]
  have hlt : i < (rng lo hi).length := by
    rcases Nat.lt_or_ge i (rng lo hi).length with q | q
    · exact q
    · rw [List.drop_of_length_le q] at h; cases h
  rw [List.drop_eq_getElem_cons hlt] at h
  injection h with h1 h2
  refine ⟨?_, h2.symm, by omega⟩
  rw [← h1]
  simp [rng]
theorem rng_end {lo hi : Int} {i : Nat} (h : (rng lo hi).drop i = []) : (hi - lo).toNat ≤ i := by
  have hl : (rng lo hi).length = (hi - lo).toNat := by simp [rng]
  rw [List.drop_eq_nil_iff, hl] at h
  exact h
/-! ### the law -/
def forBody (ss : List Stmt) : List Stmt := match ss with | .For _ _ b _ _ :: _ => b | _ => []
def restBody (ss : List Stmt) : List Stmt := match ss with | .For _ _ _ _ _ :: r => r | _ => []
def spLaw (K : PySem.W.Frag) : Sp := fun vs H Q _ => ∃ (a : Addr) (ns : List Int), vs = [.ref a] ∧ SqL K H a (ns.map V.int) ∧ ns.length ≤ 63 ∧ ∀ H', Q (.bl true) H'
structure CalB (P : Program) (w : World) (K : PySem.W.Frag) (mg : Str → Option Value) (base : Heap) : Prop where
  ex : ∃ f fd, FnOk P w K mg base CX0 2 f fd ["script", "most"] (spBags K) ∧ mg "_law_bags" = some (.ref f) ∧ PySem.W.keepIn K (.ref f) = true ∧ Binds K fd ["script", "most"] []
/-- one statement at a time -/
theorem seq_cut {t u : TSD} {D : EndsD} {ρ : DEnv} {n : Nat} (h : ∀ nx : DEnv → Nat → Prop, (∀ ρ' n', u D ρ' n' → nx ρ' n') → t { D with nx := nx } ρ n) : dSeq t u D ρ n := h (u D) fun _ _ h => h
/-! ### data of ints in tuples and lists: == is equality -/
def plD : Nat → PyData → Prop
  | _, .int _ => True
  | _, .none => True
  | m + 1, .list ds => ∀ d ∈ ds, plD m d
  | m + 1, .tuple ds => ∀ d ∈ ds, plD m d
  | _, _ => False
theorem canAll_of {ds : List PyData} (h : ∀ d ∈ ds, PyData.canLay0 d = true) : PyData.canLayAll0 ds = true := by
  induction ds with
  | nil => simp [PyData.canLayAll0]
  | cons d r ih => simp [PyData.canLayAll0, h d (by simp), ih fun e he => h e (by simp [he])]
theorem depAll_of {ds : List PyData} {m : Nat} (h : ∀ d ∈ ds, d.depth ≤ m) : PyData.depthAll ds ≤ m := by
  induction ds with
  | nil => simp [PyData.depthAll]
  | cons d r ih =>
    have h1 := h d (by simp)
    have h2 := ih fun e he => h e (by simp [he])
    simp only [PyData.depthAll]; omega
theorem eqvAll_of : ∀ {ds es : List PyData}, (∀ d ∈ ds, ∀ e ∈ es, (PyData.eqv d e = true ↔ d = e)) → (PyData.eqvAll ds es = true ↔ ds = es)
  | [], [], _ => by simp [PyData.eqvAll]
  | [], _ :: _, _ => by simp [PyData.eqvAll]
  | _ :: _, [], _ => by simp [PyData.eqvAll]
  | d :: r, e :: t, h => by
    have h1 := h d (by simp) e (by simp)
    have h2 := eqvAll_of (ds := r) (es := t) fun x hx y hy => h x (by simp [hx]) y (by simp [hy])
    simp only [PyData.eqvAll, Bool.and_eq_true, h1, h2, List.cons.injEq]
theorem plD_can : ∀ {m : Nat} {d : PyData}, plD m d → PyData.canLay0 d = true ∧ d.depth ≤ m
  | m, .int _, _ => by simp [PyData.canLay0, PyData.depth]
  | m, .none, _ => by simp [PyData.canLay0, PyData.depth]
  | 0, .list _, h => h.elim
  | 0, .tuple _, h => h.elim
  | m + 1, .list ds, h => by
    simp only [PyData.canLay0, PyData.depth]
    exact ⟨canAll_of fun d hd => (plD_can (h d hd)).1, Nat.succ_le_succ (depAll_of fun d hd => (plD_can (h d hd)).2)⟩
  | m + 1, .tuple ds, h => by
    simp only [PyData.canLay0, PyData.depth]
    exact ⟨canAll_of fun d hd => (plD_can (h d hd)).1, Nat.succ_le_succ (depAll_of fun d hd => (plD_can (h d hd)).2)⟩
  | 0, .bool _, h => h.elim
  | m + 1, .bool _, h => h.elim
  | 0, .str _, h => h.elim
  | m + 1, .str _, h => h.elim
  | 0, .dict _, h => h.elim
  | m + 1, .dict _, h => h.elim
theorem plD_eqv : ∀ {m : Nat} {d e : PyData}, plD m d → plD m e → (PyData.eqv d e = true ↔ d = e)
  | m, .int i, e, _, h' => by
    cases e <;> simp [PyData.eqv]
    cases m <;> exact h'.elim
  | m, .none, e, _, h' => by
    cases e <;> simp [PyData.eqv]
  | 0, .list _, _, h, _ => h.elim
  | 0, .tuple _, _, h, _ => h.elim
  | m + 1, .list ds, e, h, h' => by
    cases e with
    | list es =>
      simp only [PyData.eqv, PyData.list.injEq]
      exact eqvAll_of fun d hd e he => plD_eqv (h d hd) (h' e he)
    | _ => simp [PyData.eqv]
  | m + 1, .tuple ds, e, h, h' => by
    cases e with
    | tuple es =>
      simp only [PyData.eqv, PyData.tuple.injEq]
      exact eqvAll_of fun d hd e he => plD_eqv (h d hd) (h' e he)
    | _ => simp [PyData.eqv]
  | 0, .bool _, _, h, _ => h.elim
  | m + 1, .bool _, _, h, _ => h.elim
  | 0, .str _, _, h, _ => h.elim
  | m + 1, .str _, _, h, _ => h.elim
  | 0, .dict _, _, h, _ => h.elim
  | m + 1, .dict _, _, h, _ => h.elim
theorem eqOk_pl {m : Nat} {d e : PyData} (h : plD m d) (h' : plD m e) (hm : m ≤ 64 := by decide) : EqOk d e := by
  obtain ⟨a1, a2⟩ := plD_can h
  obtain ⟨b1, b2⟩ := plD_can h'
  refine ⟨?_, ?_, plD_eqv h h'⟩
  · unfold SeqAt.shaped; rw [a1, Bool.true_and, decide_eq_true_eq]; omega
  · unfold SeqAt.shaped; rw [b1, Bool.true_and, decide_eq_true_eq]; omega
theorem plD_ints (ns : List Int) : plD 1 (.list (ns.map .int)) := fun d hd => by
  obtain ⟨x, _, rfl⟩ := List.mem_map.mp hd; trivial
theorem plD_intsT (ns : List Int) : plD 1 (.tuple (ns.map .int)) := fun d hd => by
  obtain ⟨x, _, rfl⟩ := List.mem_map.mp hd; trivial
theorem eqOk_ints (ns ms : List Int) : EqOk (.list (ns.map .int)) (.list (ms.map .int)) := eqOk_pl (plD_ints ns) (plD_ints ms)
theorem eqOk_intsT (ns ms : List Int) : EqOk (.tuple (ns.map .int)) (.tuple (ms.map .int)) := eqOk_pl (plD_intsT ns) (plD_intsT ms)
theorem map_int_inj {ns ms : List Int} (h : ns.map PyData.int = ms.map PyData.int) : ns = ms := by
  have := congrArg unI h
  rwa [unI_map, unI_map] at this
end DL

namespace DL
open PySem PySem.Spec PyProof.Rows L2
/-- an answer that points nowhere -/
def imm (r : R) (k : Prop) : Prop := match r with | .dat (.int _) => k | .dat (.bool _) => k | .dat .none => k | _ => False
theorem imm_mono {r : R} {k k' : Prop} (m : k → k') (h : imm r k) : imm r k' := by
  unfold imm at h ⊢; split at h <;> first | exact m h | exact h.elim
/-- what is shared in here is one's own again behind it -/
def dPeek (f : TD) : TD := fun ρ n Q => f ρ n fun r _ n' => imm r (Q r ρ n')
theorem fe_peek {X : Cx} {e : Expr} {f : TD} (h : FE X e f) : FE X e (dPeek f) := by
  refine ⟨fun ρ n Q Q' m q => h.mono _ _ _ _ (fun r ρ1 n1 q => imm_mono (m _ _ _) q) q, pe_weak h.pe fun σ H Q ⟨c, ρ, n, Hs, D, q⟩ => ⟨c, ρ, n, Hs, D, h.mono _ _ _ _ (fun r ρ1 n1 q v Hs1 H1 D1 R1 E1 F1 => ?_) q⟩⟩
  have hB : ∀ p o, Hs p = some o → c.B ≠ some p := fun p o hp hb => by
    have := (D.bag p hb).2
    rw [hp] at this; cases this
  have D2 : DRel c ρ n1 σ Hs H1 := {
    sub := fun p o hp => E1.st p o (hB p o hp) (D.sub p o hp)
    base := D.base
    fix := D.fix
    old := D1.old
    bag := fun b hb => ⟨(D1.bag b hb).1, (D.bag b hb).2⟩
    len := D.len
    slot := fun i => by
      have := D.slot i
      revert this
      cases ρ[i]? with
      | none => exact fun h => h
      | some s =>
        cases s with
        | own o =>
          rintro ⟨a, e, ⟨ho, h1, h2, h3, h4, h5⟩⟩
          exact ⟨a, e, ⟨ho, E1.st _ _ h5 h1, h2, h3, h4, h5⟩⟩
        | un => exact fun h => h
        | dat d => exact fun h => h
        | raw v => exact fun h => h
        | bag => exact fun h => h
    dist := D.dist }
  have E2 : Ext c σ ρ Hs H ρ Hs H1 := ⟨fun _ _ h => h, E1.st, fun _ _ h _ => h, fun _ h => h⟩
  unfold imm at q
  split at q
  · cases R1; exact q _ Hs H1 D2 (Dq.int _) E2 trivial
  · cases R1; exact q _ Hs H1 D2 (Dq.bl _) E2 trivial
  · cases R1; exact q _ Hs H1 D2 Dq.non E2 trivial
  · exact q.elim
theorem pop_at {α : Type} (l : List α) (x : α) : (l ++ [x])[(l ++ [x]).length - 1]? = some x := by simp
end DL

namespace DL
open PySem PySem.Spec PyProof.Rows L2
/-- the body of a def, seen from its promise -/
theorem body_d {X : Cx} {N : List Str} {s : SpD} {t : TSD} {body : List Stmt} (hb : FSs X body t)
    (hs : ∀ rs n Q, s rs n Q → rs.length ≤ N.length → t { nx := fun _ n' => Q (.dat .none) n', rt := Q, bk := fun _ _ => False, ct := fun _ _ => False } (startD N rs) n)
    {vs : List V} {H : Hp} {Q : VK} {E : XK} (h : spD s vs H Q E) (hvl : vs.length ≤ N.length) : ∃ t, PSs X body t ∧ t { nx := fun _ H' => Q .non H', rt := Q } (start N vs) H := by
    obtain ⟨B, Hs, rs, n, D, R1, ea, q⟩ := h
    refine ⟨_, hb.pss, ⟨B, H, Hs⟩, startD N rs, n, Hs, ?_, hb.mono { nx := fun _ n' => ∀ v Hs' H', DRel ⟨B, H, Hs⟩ [] n' [] Hs' H' → RRel ⟨B, H, Hs⟩ [] [] Hs' H' (.dat .none) v → Q v H', rt := fun r n' => ∀ v Hs' H', DRel ⟨B, H, Hs⟩ [] n' [] Hs' H' → RRel ⟨B, H, Hs⟩ [] [] Hs' H' r v → Q v H', bk := fun _ _ => False, ct := fun _ _ => False } _ _ _ ⟨fun ρ' n' h σ' Hs' H' D' s => h .non Hs' H' D'.noEnv (show Dq _ _ _ from .non), fun r n' h v Hs' H' D' R' => h v Hs' H' D' R', fun _ _ h => h.elim, fun _ _ h => h.elim⟩ (hs rs n _ q (by rw [paired_len R1]; exact hvl))⟩
    have hl := paired_len R1
    have no : ∀ (i : Nat) (o : Own), (startD N rs)[i]? ≠ some (.own o) := by
      intro i o h
      unfold startD at h
      rw [List.getElem?_append] at h
      split at h
      · rw [List.getElem?_map] at h
        cases z : rs[i]? with
        | none => rw [z] at h; cases h
        | some r =>
          rw [z] at h
          have : ∀ (rs : List R) (i : Nat), allN rs = true → rs[i]? = some r → slOf r ≠ .own o := by
            intro rs
            induction rs with
            | nil => intro i _ h; simp at h
            | cons r' t ih =>
              intro i ea h
              cases i with
              | zero =>
                simp at h; subst h
                cases r' <;> first | (intro z; cases z; done) | cases ea
              | succ i =>
                simp at h
                exact ih i (by cases r' <;> first | exact ea | cases ea) h
          exact this rs i ea z (Option.some.inj h)
      · rw [List.getElem?_replicate] at h
        split at h <;> cases h
    refine ⟨D.sub, D.base, D.fix, D.old, D.bag, ?_, fun i => ?_, fun i j o o' a h => absurd h (no i o)⟩
    · unfold startD L2.start
      simp [hl]
    · unfold startD L2.start
      rw [List.getElem?_append, List.getElem?_append]
      simp only [List.length_map]
      rw [hl]
      split
      · rename_i hi
        rw [List.getElem?_map, List.getElem?_map]
        have : ∀ {rs : List R} {vs : List V}, Paired (RObs ⟨B, H, Hs⟩ Hs H) rs vs → allN rs = true → ∀ i : Nat, SlotOk ⟨B, H, Hs⟩ Hs H (rs[i]?.map slOf) (vs[i]?.map some) := by
          intro rs vs h
          induction h with
          | nil => intro _ i; simp [SlotOk]
          | cons h t ih =>
            rename_i r v rs vs
            intro ea i
            cases i with
            | zero =>
              cases r with
              | dat d => exact ⟨v, rfl, h⟩
              | raw d => cases h; rfl
              | bag => obtain ⟨b, e1, rfl⟩ := h; exact ⟨b, e1, rfl⟩
              | tmp d => cases ea
              | own d => cases ea
            | succ i => exact ih (by cases r <;> first | exact ea | cases ea) i
        exact this R1 ea i
      · rw [List.getElem?_replicate]
        split <;> trivial
/-! ### def f(a, *v) -/
def starSp (s : SpD) : SpD := fun rs n Q => ∃ r ds, rs = r :: ds.map R.dat ∧ ds.length ≤ 1000 ∧ s [r, .dat (.tuple ds)] n Q
theorem mono_star {s : SpD} (m : MonoSp s) : MonoSp (starSp s) := fun rs n Q Q' k ⟨r, ds, e, hl, h⟩ => ⟨r, ds, e, hl, m _ _ _ _ k h⟩
theorem paired_dats {c : Bs} {Hs H : Hp} : ∀ {ds : List PyData} {vs : List V}, Paired (RObs c Hs H) (ds.map R.dat) vs → DqAll Hs vs ds
  | [], _, .nil => .nil
  | d :: r, _, .cons h t => .cons h (paired_dats t)
theorem fn_sd {P : Program} {w : World} {K : PySem.W.Frag} {mg : Str → Option Value} {base : Heap} {x qual : Str} {st : Stmt} {f : Addr} {fd : FuncData} {N : List Str} {p1 pv : Str} {k : Nat} {s : SpD} {t : TSD} (F : Fun K x qual st f fd) (S : FnScope N [p1, pv] (defScope st)) (m : MonoSp s)
    (hN : 2 ≤ N.length)
    (h0 : ∀ (kV doc pm : Value) (an : Option Addr) (cdv ct : Value) (a : Value), bindArgs (PySem.W.fnOf x qual (defArgs st) (defBody st) (defScope st) .none kV doc pm an cdv ct) ⟨[a], []⟩ = (newTuple [] >>= fun t => pure [(p1, a), (pv, t)]))
    (h1 : ∀ (kV doc pm : Value) (an : Option Addr) (cdv ct : Value) (a r : Value) (rs : List Value), bindArgs (PySem.W.fnOf x qual (defArgs st) (defBody st) (defScope st) .none kV doc pm an cdv ct) ⟨a :: r :: rs, []⟩ = (newTuple (r :: rs) >>= fun t => pure [(p1, a), (pv, t)]))
    (hbody : ∀ (cdv : Value) (A : Around) (outer : List PySem.Env) (s0 : Shared) (H : Hp) (E : XK), Room k (A.deeper (envOfC qual (defScope st) s0.heap.objs.size f cdv)) →
      FSs (cxOf CX0 P w K mg base N qual (defScope st) f cdv A outer s0 H E).nox (defBody st) t)
    (hs : ∀ rs n Q, s rs n Q → t { nx := fun _ n' => Q (.dat .none) n', rt := Q, bk := fun _ _ => False, ct := fun _ _ => False } (startD N rs) n) :
    FnR P w K mg base CX0 (k + 1) f (spD (starSp s)) := by
  obtain ⟨oc, od, kV, doc, pm, an, cdv, ct, osl, rfl, lk, hcd⟩ := F.ex
  have R := fn_starF (CX := CX0) (k := k) (sp := fun vs H Q E => spD s vs H Q E ∧ vs.length = 2) (ps := [p1]) (pv := pv) (mg := mg) (base := base) (P := P) (w := w) lk hcd S (fun _ _ _ _ _ _ _ _ _ _ _ z => z)
    (fun us rest hl => StX.bind_star1 (B := fun us => bindArgs (PySem.W.fnOf x qual (defArgs st) (defBody st) (defScope st) .none kV doc pm an cdv ct) ⟨us, []⟩) (fun a => h0 kV doc pm an cdv ct a) (fun a r rs => h1 kV doc pm an cdv ct a r rs) us rest hl)
    (fun A outer s0 H vs Q E hr h => by
      obtain ⟨t, h1, h2⟩ := body_d (N := N) (hbody cdv A outer s0 H E hr) (fun rs n Q h _ => hs rs n Q h) h.1 (by omega)
      exact ⟨t, h1.nox, h2⟩)
  refine R.imp fun vs H Q E h => ?_
  obtain ⟨B, Hs, rs, n, D, R1, ea, r, ds, rfl, hl, q⟩ := h
  cases R1 with
  | cons hr ht =>
    rename_i v rest
    have hd := paired_dats ht
    refine ⟨[v], rest, rfl, rfl, by rw [dpAll_len hd]; exact small20 (by omega), fun p o0 hp ho => ⟨⟨B, upd Hs p (.frz o0 (.tup rest)), [r, .dat (.tuple ds)], n, ?_, ?_, ?_, ?_⟩, rfl⟩⟩
    · have D2 := (D.newSh (p := p) (o := .frz o0 (.tup rest)) hp).1
      exact D2.entry
    · have s1 : Same Hs (upd Hs p (.frz o0 (.tup rest))) := same_upd (D.sub.free hp)
      have s2 : Same H (upd H p (.frz o0 (.tup rest))) := same_upd hp
      refine .cons ?_ (.cons ?_ .nil)
      · cases r with
        | own o => cases ea
        | tmp o => cases ea
        | dat d => exact dp_mono s1 hr
        | raw x => exact hr
        | bag => exact hr
      · exact .tup ⟨o0, upd_same, ho⟩ (dpAll_mono s1 hd)
    · cases r <;> first | rfl | cases ea
    · refine m _ _ _ _ (fun r' n' q' v' Hs' H' D' R' => ?_) q
      have s1 : Same Hs (upd Hs p (.frz o0 (.tup rest))) := same_upd (D.sub.free hp)
      have hne : ∀ p', H p' ≠ none → p' ≠ p := fun p' h e => h (by rw [e]; exact hp)
      have hup : ∀ p', H p' ≠ none → upd H p (.frz o0 (.tup rest)) p' = H p' := fun p' h => upd_ne (hne p' h)
      have hups : ∀ p', H p' ≠ none → upd Hs p (.frz o0 (.tup rest)) p' = Hs p' := fun p' h => upd_ne (hne p' h)
      refine q' v' Hs' H' ⟨D'.sub, s1.trans D'.base, fun p' h => ?_, fun p' o b h => ?_, D'.bag, D'.len, fun i => by simp [SlotOk], fun i j o o' a h => by simp at h⟩ ?_
      · have := D'.fix p' (by show upd H p (.frz o0 (.tup rest)) p' ≠ none; rw [hup p' h]; exact h)
        rw [this]; exact hups p' h
      · exact D'.old p' o b (by show upd H p (.frz o0 (.tup rest)) p' = some o; rw [hup p' (ne_none h)]; exact h)
      · cases r' with
        | own o =>
          obtain ⟨a, e, ⟨ho, g1, g2, g3, g4, g5⟩, g6⟩ := R'
          have g4 : upd H p (.frz o0 (.tup rest)) a = none := g4
          refine ⟨a, e, ⟨ho, g1, g2, g3, ?_, g5⟩, g6⟩
          show H a = none
          cases z : H a with
          | none => rfl
          | some o => rw [hup a (ne_none z), z] at g4; cases g4
        | tmp o => exact R'
        | dat d => exact R'
        | raw x => exact R'
        | bag => exact R'
structure CalS (P : Program) (w : World) (K : PySem.W.Frag) (mg : Str → Option Value) (base : Heap) (x : Str) (k : Nat) (s : SpD) : Prop where
  ex : ∃ f, FnR P w K mg base CX0 k f (spD (starSp s)) ∧ mg x = some (.ref f) ∧ PySem.W.keepIn K (.ref f) = true
section
variable {X : Cx} {CX : CXT} {k : Nat} {f : Addr} {sp : Sp} {E : XK} {x : Str} {e : Expr} {es : List Expr} {t : TA} {p pos : Pos}
theorem pe_callR (F : FnR X.prog X.w X.K X.mg X.base CX k f sp) (hr : Room k X.A) (hg : Gl X x) (hm : X.mg x = some (.ref f)) (hk : PySem.W.keepIn X.K (.ref f) = true) (hx : Passes CX X E) (ha : PA X (e :: es) t)
    (hdb : (x == ("__debug__" : Str)) = false := by decide) (he : starEach (e :: es) X.env = (false, eval e X.env) :: starEach es X.env := by rfl) (hpl : (backTo pos (starEach es X.env)).any (·.1) = false := by rfl) :
    PE X (.Call (.Name x p) (e :: es) [] pos) (fun σ H Q => t σ H fun vs H1 => sp vs H1 Q E) := by
  refine ⟨fun pins s σ H Q I h => ?_⟩
  refine wpAny_Call_Name_kw (ld_glob I hg hm ?_ hdb)
  refine PySem.W.callWith_K (h₀ := X.base) I.ok.mod.kin hk (thn (ha.run pos pins s σ H _ I h) fun us s1 ⟨vs, H1, I1, r, q⟩ => ⟨I1.kIn, ?_⟩) he hpl
  exact wpAny_call (run_fnR F hr hx I1 r q)
end
theorem fe_callS {X : Cx} {x : Str} {p pos : Pos} {e : Expr} {es : List Expr} {t : TAD} {k : Nat} {s : SpD} (C : CalS X.prog X.w X.K X.mg X.base x k s) (m : MonoSp s) (hr : Room k X.A)
    (ha : FA X (e :: es) t) (hg : Gl X x := by rfl) (hdb : (x == ("__debug__" : Str)) = false := by decide) (he : starEach (e :: es) X.env = (false, eval e X.env) :: starEach es X.env := by rfl) (hpl : (backTo pos (starEach es X.env)).any (·.1) = false := by rfl) :
    FE X (.Call (.Name x p) (e :: es) [] pos) (dCall (starSp s) t) := by
  obtain ⟨f, F, hm, hk⟩ := C.ex
  refine ⟨fun ρ n Q Q' k h => ha.mono _ _ _ _ (fun rs ρ1 n1 h => by
    revert h; split
    · exact fun h => mono_star m _ _ _ _ (fun r n2 h => k _ _ _ h) h
    · exact id) h, pe_weak (pe_callR F hr hg hm hk pass0 ha.pa hdb he hpl) fun σ H Q h => ?_⟩
  obtain ⟨c, ρ, n, Hs, D, q⟩ := call_weak (mono_star m) ha.mono σ H Q h
  refine ⟨c, ρ, n, Hs, D, ha.mono _ _ _ _ (fun rs ρ1 n1 q vs Hs1 H1 D1 R1 E1 od fr => ?_) q⟩
  have := q vs Hs1 H1 D1 R1 E1 od fr
  have e : vs ++ [] = vs := List.append_nil vs
  simp only [e] at this
  exact this
end DL

namespace DL
open PySem PySem.Spec PySem.W PyProof.Rows L2
/-! ### the greatest and the least of a tuple of ints -/
theorem readsInts {h : Heap} : ∀ {its : List Value} {ns : List Int}, IntsAre its ns → ReadsAll h its (ns.map PyData.int) []
  | [], [], .nil => .nil
  | _ :: _, n :: ns, .cons _ k t => .cons (as := []) (bs := []) (.int n k) (readsInts t)
theorem alikeInts (ns : List Int) : AlikeAll (ns.map PyData.int) := by
  refine ⟨fun x hx y hy => ?_, fun x hx => ?_⟩
  · obtain ⟨i, _, rfl⟩ := List.mem_map.mp hx
    obtain ⟨j, _, rfl⟩ := List.mem_map.mp hy
    rfl
  · obtain ⟨i, _, rfl⟩ := List.mem_map.mp hx
    exact fun e => nomatch e
theorem depInts : ∀ ns : List Int, PyData.depthAll (ns.map PyData.int) = 0
  | [] => rfl
  | n :: r => by simp [PyData.depthAll, PyData.depth, depInts r]
theorem foldmax_mem : ∀ (ns : List Int) (n : Int), ns.foldl max n ∈ n :: ns ∧ ∀ y ∈ n :: ns, y ≤ ns.foldl max n
  | [], n => by simp
  | m :: r, n => by
    obtain ⟨h1, h2⟩ := foldmax_mem r (max n m)
    rw [List.foldl_cons]
    refine ⟨?_, fun y hy => ?_⟩
    · rcases List.mem_cons.mp h1 with h | h
      · rw [h]
        rcases Int.le_total n m with q | q
        · rw [Int.max_eq_right q]; simp
        · rw [Int.max_eq_left q]; simp
      · simp [h]
    · have h3 := h2 (max n m) (by simp)
      simp only [List.mem_cons] at hy
      rcases hy with rfl | rfl | hy
      · omega
      · omega
      · exact h2 y (by simp [hy])
theorem foldmin_mem : ∀ (ns : List Int) (n : Int), ns.foldl min n ∈ n :: ns ∧ ∀ y ∈ n :: ns, ns.foldl min n ≤ y
  | [], n => by simp
  | m :: r, n => by
    obtain ⟨h1, h2⟩ := foldmin_mem r (min n m)
    rw [List.foldl_cons]
    refine ⟨?_, fun y hy => ?_⟩
    · rcases List.mem_cons.mp h1 with h | h
      · rw [h]
        rcases Int.le_total n m with q | q
        · rw [Int.min_eq_left q]; simp
        · rw [Int.min_eq_right q]; simp
      · simp [h]
    · have h3 := h2 (min n m) (by simp)
      simp only [List.mem_cons] at hy
      rcases hy with rfl | rfl | hy
      · omega
      · omega
      · exact h2 y (by simp [hy])
def rMaxT (K : PySem.W.Frag) : List V → Hp → VK → Prop := fun vs H Q => ∃ (a : Addr) (ns : List Int), vs = [V.ref a] ∧ SqT K H a (ns.map V.int) ∧ 0 < ns.length ∧ ∀ m, m ∈ ns → (∀ y ∈ ns, y ≤ m) → Q (.int m) H
def rMinT (K : PySem.W.Frag) : List V → Hp → VK → Prop := fun vs H Q => ∃ (a : Addr) (ns : List Int), vs = [V.ref a] ∧ SqT K H a (ns.map V.int) ∧ 0 < ns.length ∧ ∀ m, m ∈ ns → (∀ y ∈ ns, m ≤ y) → Q (.int m) H
section
variable {X : Cx}
theorem cr_maxT (hc : X.calm = true) (hu : X.A.units + 64 < cLine) : CallR X (.builtin "max") (rMaxT X.K) := by
  intro pins s σ H vs us Q I r h
  obtain ⟨a, ns, rfl, hs, hne, q⟩ := h
  obtain ⟨its, rv, hl, _⟩ := I.tuple hs
  rw [Vals.ref1 r]
  cases ns with
  | nil => exact absurd hne (by simp)
  | cons n ns =>
    refine max_tuple_data (x := .int n) (xs := ns.map .int) (I.ok.hd hc) hl (by simpa using readsInts rv.ints) (alikeInts (n :: ns)) (by rw [show PyData.int n :: ns.map PyData.int = (n :: ns).map PyData.int from rfl, depInts]; omega) fun i v h' tk bs hv hr hk => ?_
    rw [maxD_ints] at hr
    cases hr
    obtain ⟨m1, m2⟩ := foldmax_mem ns n
    exact ⟨.int _, H, I.kept hk, ⟨_, rfl⟩, q _ m1 m2⟩
theorem cr_minT (hc : X.calm = true) (hu : X.A.units + 64 < cLine) : CallR X (.builtin "min") (rMinT X.K) := by
  intro pins s σ H vs us Q I r h
  obtain ⟨a, ns, rfl, hs, hne, q⟩ := h
  obtain ⟨its, rv, hl, _⟩ := I.tuple hs
  rw [Vals.ref1 r]
  cases ns with
  | nil => exact absurd hne (by simp)
  | cons n ns =>
    refine min_tuple_data (x := .int n) (xs := ns.map .int) (I.ok.hd hc) hl (by simpa using readsInts rv.ints) (alikeInts (n :: ns)) (by rw [show PyData.int n :: ns.map PyData.int = (n :: ns).map PyData.int from rfl, depInts]; omega) fun i v h' tk bs hv hr hk => ?_
    rw [minD_ints] at hr
    cases hr
    obtain ⟨m1, m2⟩ := foldmin_mem ns n
    exact ⟨.int _, H, I.kept hk, ⟨_, rfl⟩, q _ m1 m2⟩
end
section
variable {X : Cx} {e : Expr} {t : TAD} {p pos : Pos}
def fMaxT : F1 := fun r Q => asT r fun ds => ∃ ns : List Int, ds = ns.map PyData.int ∧ 0 < ns.length ∧ ∀ m, m ∈ ns → (∀ y ∈ ns, y ≤ m) → Q (vI m)
def fMinT : F1 := fun r Q => asT r fun ds => ∃ ns : List Int, ds = ns.map PyData.int ∧ 0 < ns.length ∧ ∀ m, m ∈ ns → (∀ y ∈ ns, m ≤ y) → Q (vI m)
theorem fe_maxT (hc : X.calm = true) (hu : X.A.units + 64 < cLine) (hm : X.mg "max" = none) (ha : FA X [e] t) (hg : Gl X "max" := by rfl) (he : starEach [e] X.env = (false, eval e X.env) :: starEach [] X.env := by rfl) : FE X (.Call (.Name "max" p) [e] [] pos) (dCB (f1N fMaxT) t) := by
  refine fe_callB (cr_maxT hc hu) (sim_1N fun c ρ n σ Hs H r x Qd Q D o h k => ?_) (mono_1N fun r Q Q' m h => asT_mono (fun _ ⟨ns, e, l, h⟩ => ⟨ns, e, l, fun x h1 h2 => m _ (h x h1 h2)⟩) h) hm ha (hg := hg) (he := he)
  obtain ⟨a, vs, ds, rfl, hs, q1, ns, rfl, hl, h⟩ := asT_at o D.sub h
  rw [dpAll_ints_inv q1] at hs
  exact ⟨a, ns, rfl, hs.sq, hl, fun m h1 h2 => k.dat D (.int _) (h m h1 h2)⟩
theorem fe_minT (hc : X.calm = true) (hu : X.A.units + 64 < cLine) (hm : X.mg "min" = none) (ha : FA X [e] t) (hg : Gl X "min" := by rfl) (he : starEach [e] X.env = (false, eval e X.env) :: starEach [] X.env := by rfl) : FE X (.Call (.Name "min" p) [e] [] pos) (dCB (f1N fMinT) t) := by
  refine fe_callB (cr_minT hc hu) (sim_1N fun c ρ n σ Hs H r x Qd Q D o h k => ?_) (mono_1N fun r Q Q' m h => asT_mono (fun _ ⟨ns, e, l, h⟩ => ⟨ns, e, l, fun x h1 h2 => m _ (h x h1 h2)⟩) h) hm ha (hg := hg) (he := he)
  obtain ⟨a, vs, ds, rfl, hs, q1, ns, rfl, hl, h⟩ := asT_at o D.sub h
  rw [dpAll_ints_inv q1] at hs
  exact ⟨a, ns, rfl, hs.sq, hl, fun m h1 h2 => k.dat D (.int _) (h m h1 h2)⟩
end
/-! ### a list unpacked -/
section
variable {X : Cx} {e : Expr} {f : TD} {pos : Pos} {is : List Nat}
def dUnpL (is : List Nat) (f : TD) : TSD := fun D ρ n => f ρ n fun r ρ' n' => asL r fun ds => ds.length = is.length ∧ D.nx (setAll ρ' is (ds.map R.dat)) n'
theorem fs_unpL {ts : List Expr} {kt : Nat} {pt : Pos} (hc : X.calm = true) (he : FE X e f) (hn : FNs X ts is) (hlen : (assignEach ts X.env).length = is.length := by rfl) (hst : (assignEach ts X.env).findIdx? (·.1) = none := by rfl)
    (hs : swapsWithSole [.Tuple ts kt pt] e pos.line X.env = pure false := by rfl) (hw : swappedStores [.Tuple ts kt pt] e X.env = pure none := by rfl)
    (h1 : (assignEach [.Tuple ts kt pt] X.env).map (·.2) = [assign (.Tuple ts kt pt) X.env] := by rfl) :
    FS X (.Assign [.Tuple ts kt pt] e pos) (dUnpL is f) := by
  refine ⟨fun D D' ρ n le q => he.mono _ _ _ _ (fun r ρ' n' q => asL_mono (fun ds q => ⟨q.1, le.nx _ _ q.2⟩) q) q, ps_weak (ps_asg he.pe (pg_unl hc hn.pgs hlen hst) hs hw h1) ?_⟩
  rintro D σ H ⟨c, ρ, n, Hs, d, q⟩
  refine ⟨c, ρ, n, Hs, d, he.mono _ _ _ _ (fun r ρ1 n1 q v Hs1 H1 d1 R1 E1 fr => ?_) q⟩
  obtain ⟨a, vs, ds, rfl, hs, q1, hl, q⟩ := asL_at R1.obs d1.sub q
  have hv : vs.length = is.length := (dpAll_len q1).trans hl
  refine ⟨a, vs, rfl, SqL.of hs, hv, gNames_at hv (q _ _ _ (DRel.setAll is d1 ?_ (fun i j o o' p h => ?_) ?_) E1.sh)⟩
  · exact paired_dat q1
  · simp only [List.getElem?_map] at h
    cases z : ds[i]? with
    | none => rw [z] at h; simp at h
    | some d => rw [z] at h; simp at h
  · exact noTmps_dat ds
end
/-- a test, its branches shut -/
theorem if_cut {c : TTD} {t u : TSD} {D : EndsD} {ρ : DEnv} {n : Nat} (h : ∀ T U : DEnv → Nat → Prop, (∀ ρ' n', t D ρ' n' → T ρ' n') → (∀ ρ' n', u D ρ' n' → U ρ' n') → c ρ n fun b ρ' n' => if b = true then T ρ' n' else U ρ' n') : dIf c t u D ρ n :=
  h _ _ (fun _ _ h => h) fun _ _ h => h
end DL

namespace DL
open PySem PySem.Spec PySem.W PyProof.Rows L2 RZ
/-! ### sorted(set(xs)), xs a list of ints -/
abbrev o0 (w : World) : Obj := { cls := .type "set", dict := none, data := .set #[] 0 (.fresh 0 0 (!w.params.followText "set-order")) }
section
variable {P : Program} {w : World} {A : Around} {E : Value → Shared → Prop} {s : Shared}
theorem set_of_ints {l : Addr} {xs : Array Value} (ks : List Int) {Q : Value → Shared → Prop} (a1 : A.handled = none) (a2 : s.heap.IsList l xs) (a3 : IntsAre xs.toList ks) (a4 : ks.length + 1 < scanBound)
    (a5 : ∀ (g : Heap) (tk c : Nat), SetR w g s.heap.objs.size (fun j => decide (j ∈ ks)) c → c ≤ ks.length → (∀ b o, s.heap.get? b = some o → g.get? b = some o) → Q (.ref s.heap.objs.size) { s with heap := g, toks := tk }) :
    wpAny (model P w) A (call (.type "set") [.ref l]) Q E s := by
  have sz : xs.size = ks.length := by have := IntsAre.length a3; rwa [Array.length_toList] at this
  obtain ⟨cc, tt, b1⟩ := F.called_set.mro
  have b2 := F.called_set.made; have b3 := F.called_set.sub; have b4 := F.called_set.notType; have b5 := F.called_set.canCreate; have b6 := F.typeCall_set_1 (.ref l)
  refine wpAny_call (codeAny_of_tree ?_); show wpAny _ _ (callAny (.type "set") _) _ _ _
  refine wpAny_pure ⟨Code.quiet_builtin _ (by decide +kernel), codeAny_builtin F.entry_type_call ?_⟩; rw [Around.under_plain (weight_type_call_type "set" [.ref l] []) rfl]
  repeat (any_goals (first | assumption | wp_step))
  refine codeAny_mono (code_set_led1 (.ref l) (E := E) (Q₁ := fun y s₁ => y = .ref s.heap.objs.size ∧ s₁ = { s with heap := s.heap.push (o0 w) }) ⟨rfl, rfl⟩) fun r s₁ q1 => ?_
  cases r with
  | error e => exact q1
  | ok fl =>
    cases fl with
    | ret y =>
      obtain ⟨rfl, rfl⟩ := q1
      have c1 : (s.heap.push (o0 w)).get? s.heap.objs.size = some (o0 w) := Heap.get?_push_size _ rfl
      have c2 : Shared.TypeIs { s with heap := s.heap.push (o0 w) } (.ref s.heap.objs.size) "set" := ⟨_, c1, rfl⟩
      have c3 := F.called_set.init.lookup; have c4 := F.called_set.init.bind (.ref s.heap.objs.size)
      repeat (any_goals (first | assumption | wp_step))
      refine codeAny_mono (codeAny_call_builtin (R := wants (fun r s₂ => r = .none ∧ ∃ g tk c, s₂ = { s with heap := g, toks := tk } ∧ SetR w g s.heap.objs.size (fun j => decide (j ∈ ks)) c ∧ c ≤ ks.length ∧ (∀ b o, s.heap.get? b = some o → g.get? b = some o)) E) F.called_set.init.plain F.entry_set_init (check_set_init_1 c2 ?_)) fun r₂ s₂ q2 => ?_
      · obtain ⟨ol, d1, d2, nl, d3⟩ := a2
        obtain ⟨k1, k2, k3, k4⟩ := ol; simp only at d2 d3; subst d2; subst d3
        have f1 : (s.heap.push (o0 w)).get? l = some { cls := .type "list", dict := k2, data := .seq xs nl, slots := k4 } := Heap.get?_push_of_some _ d1
        have f2 := F.sub_list_set; have f3 := F.sub_list_frozenset
        have f4 : (Value.type "list" == Value.type "dict") = false := by decide
        have f5 : (s.heap.push (o0 w)).IsList l xs := ⟨_, f1, rfl, nl, rfl⟩
        unfold Builtin.«set.__init__» noKeywords Builtin.Frozenset.updateFrom
        generalize hz : pyIter = PI
        wp_walk
        subst hz
        refine wpAny_pyIter_list f5 (wpAny_bind (wpAny_runValue ?_))
        have g1 : l < s.heap.objs.size := Heap.lt_size d1
        have g2 : A.in1.in1.in1.handled = none := by simp [a1]
        have g3 : l ≠ (s.heap.push (o0 w)).objs.size := by rw [Heap.size_push]; exact Nat.ne_of_lt (Nat.lt_succ_of_lt g1)
        have g4 : s.heap.objs.size ∉ [(s.heap.push (o0 w)).objs.size, l] := by
          rw [Heap.size_push]; simp only [List.mem_cons, List.not_mem_nil, or_false, not_or]; exact ⟨Nat.ne_of_lt (Nat.lt_succ_self _), Nat.ne_of_gt g1⟩
        have g5 : ∀ (i : Nat) (v : Value), xs[i]? = some v → ∃ k t, ks[i]? = some k ∧ v = .int k t := fun i v hv => by
          have i1 : i < ks.length := by rw [← sz]; exact (Array.getElem?_eq_some_iff.mp hv).1
          obtain ⟨t, i2⟩ := PyProof.Rows.IntsAre.int_at a3 i v (by rw [Array.getElem?_toList]; exact hv)
          exact ⟨ks[i], t, List.getElem?_eq_getElem i1, by rw [i2, List.getD_eq_getElem?_getD, List.getElem?_eq_getElem i1]; rfl⟩
        refine set_update_ints ((Walks.list g2 _ l g3 xs).toS) s.heap.objs.size g4 ks sz a4 g5 (xs.size - 0) 0 _ (by omega) (Nat.zero_le _) ⟨⟨_, Heap.get?_push_size _ rfl, rfl, rfl⟩, f5.push _⟩ ⟨0, Nat.le_refl 0, setR_new_at (Heap.get?_push_of_some _ c1)⟩ ?_
        intro z c' m1 m2 m3
        obtain ⟨g, n1, n2, n3, n4⟩ := z
        obtain rfl : n1 = s.gens := m1.gens
        obtain rfl : n2 = s.drawn := m1.drawn
        obtain rfl : n4 = s.os := m1.os
        show wpAny _ _ _ _ _ _
        refine wpAny_pure ?_
        show wpAny _ _ (ret Value.none) _ _ _
        rw [sz] at m2
        refine wpAny_pure ⟨rfl, g, n3, c', rfl, m3, m2, fun b o e => m1.heap b o ?_ (Heap.get?_push_of_some _ (Heap.get?_push_of_some _ e))⟩
        have p1 : b < s.heap.objs.size := Heap.lt_size e
        simp only [List.mem_cons, List.not_mem_nil, or_false, not_or]
        exact ⟨Nat.ne_of_lt p1, by rw [Heap.size_push]; exact Nat.ne_of_lt (Nat.lt_succ_of_lt p1)⟩
      · cases r₂ with
        | error e => exact q2
        | ok fl₂ =>
          cases fl₂ with
          | ret r =>
            obtain ⟨rfl, g, tk, c', rfl, j1, j2, j3⟩ := q2
            repeat (any_goals (first | assumption | wp_step))
            exact a5 _ _ _ j1 j2 j3
          | _ => exact q2.elim
    | _ => exact q1.elim
end
end DL

namespace DL
open PySem PySem.Spec PySem.W PyProof.Rows L2
def rSetOfI (K : PySem.W.Frag) (w : World) : List V → Hp → VK → Prop := fun vs H Q => ∃ (a : Addr) (ns : List Int), vs = [V.ref a] ∧ SqL K H a (ns.map V.int) ∧ ns.length ≤ 1000 ∧
  ∀ (p : Addr) (c : Nat), H p = none → c ≤ ns.length → Q (.ref p) (upd H p (SetO w p (fun j => decide (j ∈ ns)) c))
section
variable {X : Cx}
theorem cr_setOfI (hc : X.calm = true) : CallR X (.type "set") (rSetOfI X.K X.w) := by
  intro pins s σ H vs us Q I r h
  obtain ⟨a, ns, rfl, hs, hl, q⟩ := h
  obtain ⟨its, rv, pl, _⟩ := I.list hs
  rw [Vals.ref1 r]
  refine set_of_ints ns (I.ok.hd hc) pl.isList (by simpa using rv.ints) (by unfold scanBound; omega) fun g tk c R hcn k => ?_
  exact ⟨.ref _, upd H s.heap.objs.size (SetO X.w s.heap.objs.size (fun j => decide (j ∈ ns)) c), I.laid (t' := tk) k (Nat.le_refl _) (setO_new R), rfl, q _ c (I.hok.fresh (Nat.le_refl _)) hcn⟩
end
end DL
namespace DL
open PySem PySem.Spec PySem.W PyProof.Rows L2
def fSS : F1 := fun r Q => asL r fun ds => ∃ ns : List Int, ds = ns.map PyData.int ∧ ns.length < 64 ∧ ∀ out : List Int, out.Pairwise (· < ·) → (∀ k, k ∈ out ↔ k ∈ ns) → Q (.own (.lst (out.map PyData.int)))
theorem mono_SS : Mono1 fSS := fun r Q Q' m h => asL_mono (fun ds ⟨ns, e, l, h⟩ => ⟨ns, e, l, fun o h1 h2 => m _ (h o h1 h2)⟩) h
theorem fe_sortedSet {X : Cx} {e : Expr} {f : TD} {p p2 q pos : Pos} (hc : X.calm = true) (hm : X.mg "sorted" = none) (hm2 : X.mg "set" = none) (ha : FE X e f) (hg : Gl X "sorted" := by rfl) (hg2 : Gl X "set" := by rfl)
    (he : starEach [e] X.env = (false, eval e X.env) :: starEach [] X.env := by rfl) (he2 : starEach [.Call (.Name "set" p2) [e] [] q] X.env = (false, eval (.Call (.Name "set" p2) [e] [] q) X.env) :: starEach [] X.env := by rfl) :
    FE X (.Call (.Name "sorted" p) [.Call (.Name "set" p2) [e] [] q] [] pos) (dUn fSS f) := by
  refine ⟨mono_un mono_SS ha.mono, pe_weak (pe_callB (cr_sortedSet hc) hg hm (by decide +kernel) (pa_cons (pe_callTy (cr_setOfI hc) hg2 hm2 (by decide +kernel) (pa_cons ha.pe pa_nil he) (he := he)) pa_nil he2) (he := he2)) ?_⟩
  rintro σ H Q ⟨c, ρ, n, Hs, D, h⟩
  refine ⟨c, ρ, n, Hs, D, ha.mono _ _ _ _ (fun r ρ1 n1 q1 v Hs1 H1 D1 R1 E1 F1 => ?_) h⟩
  obtain ⟨a, vs, ds, rfl, hs, r1, ns, rfl, hl, k⟩ := asL_at R1.obs D1.sub q1
  rw [dpAll_ints_inv r1] at hs
  refine ⟨a, ns, rfl, SqL.of hs, by omega, fun p c' hp hc' => ?_⟩
  refine ⟨p, _, c', rfl, upd_same, by omega, fun out p2 s1 s2 s3 hp2 => ?_⟩
  obtain ⟨D2, E2⟩ := D1.newSh (p := p) (o := SetO X.w p (fun j => decide (j ∈ ns)) c') hp
  have k2 := k out s1 fun j => by rw [s2 j]; simp
  have A : After c σ ρ1 n1 (upd Hs1 p (SetO X.w p (fun j => decide (j ∈ ns)) c')) (upd H1 p (SetO X.w p (fun j => decide (j ∈ ns)) c')) (fun r => r = .own (.lst (out.map PyData.int))) Q := fun r' v' Hs' H' D' R' E' F' er => by
    subst er
    exact k2 v' Hs' H' D' R' (E1.trans D1 (E2.trans D2 E')) (F'.back fun b hb => E2.dom D2 (E1.dom D1 hb))
  exact A.ownL D2 hp2 (dpAll_ints _) rfl
end DL

namespace DL
open PySem PySem.Spec PySem.W PyProof.Rows L2
/-! ### i in t, i not in t: an int in a tuple of ints -/
theorem inV_ints (i : Int) (ns : List Int) : inV (.int i) (ns.map V.int) = decide (i ∈ ns) := by
  unfold inV
  rw [List.any_map]
  have e : (fun y => eqV y (.int i)) ∘ V.int = fun x : Int => x == i := by
    funext x
    rfl
  rw [e]
  induction ns with
  | nil => rfl
  | cons x r ih =>
    rw [List.any_cons, ih]
    by_cases h : x = i
    · subst h; simp
    · have h2 : ¬ i = x := fun z => h z.symm
      simp [h, h2]
theorem flat_ints (ns : List Int) : (ns.map V.int).all flatV = true := by
  rw [List.all_map]
  exact List.all_eq_true.mpr fun _ _ => rfl
def fInT : F2 := fun r r' Q => asI r fun i => asT r' fun ds => ∃ ns : List Int, ds = ns.map PyData.int ∧ Q (vB (decide (i ∈ ns)))
def fNotInT : F2 := fun r r' Q => asI r fun i => asT r' fun ds => ∃ ns : List Int, ds = ns.map PyData.int ∧ Q (vB (!decide (i ∈ ns)))
theorem mono_inT : Mono2 fInT := fun r r' Q Q' m h => asI_mono (fun _ h => asT_mono (fun _ ⟨ns, e, h⟩ => ⟨ns, e, m _ h⟩) h) h
theorem mono_notInT : Mono2 fNotInT := fun r r' Q Q' m h => asI_mono (fun _ h => asT_mono (fun _ ⟨ns, e, h⟩ => ⟨ns, e, m _ h⟩) h) h
theorem sim_inT {K : PySem.W.Frag} : Sim2 (rIn K false) fInT := fun c ρ n σ Hs H r r' x y Qd Q D o o' h k => by
  obtain ⟨i, rfl, h1⟩ := asI_inv h
  cases o
  obtain ⟨a, vs, ds, rfl, e1, q1, ns, rfl, h2⟩ := asT_at o' D.sub h1
  rw [dpAll_ints_inv q1] at e1
  refine ⟨a, _, rfl, .inr e1.sq, rfl, flat_ints ns, ?_⟩
  show Q (V.bl (inV (V.int i) (ns.map V.int))) H
  rw [inV_ints]
  exact k.dat D (.bl _) h2
theorem sim_notInT {K : PySem.W.Frag} : Sim2 (rIn K true) fNotInT := fun c ρ n σ Hs H r r' x y Qd Q D o o' h k => by
  obtain ⟨i, rfl, h1⟩ := asI_inv h
  cases o
  obtain ⟨a, vs, ds, rfl, e1, q1, ns, rfl, h2⟩ := asT_at o' D.sub h1
  rw [dpAll_ints_inv q1] at e1
  refine ⟨a, _, rfl, .inr e1.sq, rfl, flat_ints ns, ?_⟩
  show Q (V.bl (!inV (V.int i) (ns.map V.int))) H
  rw [inV_ints]
  exact k.dat D (.bl _) h2
section
variable {X : Cx} {a e : Expr} {es : List Expr} {f g : TD} {kk : Nat} {tp pos : Pos}
theorem ft_in (ha : FE X a f) (hb : FE X (.Tuple es kk tp) g) : FT X (.Compare a [.In] [.Tuple es kk tp] pos) (dTest (dBin fInT f g)) := ft_cmpR op_in_seq sim_inT mono_inT ha hb rfl
theorem ft_notIn (ha : FE X a f) (hb : FE X (.Tuple es kk tp) g) : FT X (.Compare a [.NotIn] [.Tuple es kk tp] pos) (dTest (dBin fNotInT f g)) := ft_cmpR op_notIn_seq sim_notInT mono_notInT ha hb rfl
end
/-! ### enumerate(t) -/
theorem meets_enumerate_newB1 {v : Value} {o : Obj} {H : Heap → Prop} (B : Begins v o H) :
    Meets (Builtin.«enumerate.__new__» ⟨[.type "enumerate", v], []⟩) (fun _ R s => H s.heap ∧
      R (.ok (.ret (.ref (s.heap.push o).objs.size))) { s with heap := (s.heap.push o).push { cls := .type "enumerate", data := .fields #[.none, .bool false, .ref s.heap.objs.size, rawInt 0, .none, .none] } }) :=
  .of_wp fun prog w A R s h => by
    obtain ⟨hp, g, d, tk, os⟩ := s; obtain ⟨h1, h⟩ := h
    have hsub := sub_enumerate
    have q1 : ∀ {A' : Around} {E : Value → Shared → Prop} {Q : Value → Shared → Prop}, Q (.ref hp.objs.size) ⟨hp.push o, g, d, tk, os⟩ → wpAny (model prog w) A' (pyIter v) Q E ⟨hp, g, d, tk, os⟩ :=
      fun q => B.iter prog w _ _ ⟨hp, g, d, tk, os⟩ _ h1 q
    wp_walk using q1
    refine wpAny_stack_any fun st => wpAny_pure ?_
    split
    · rename_i c _ _ _ _ _
      cases (c == Value.type "enumerate")
      · wp_walk using q1
        exact ⟨_, rfl, h⟩
      · wp_walk using q1
        exact ⟨_, rfl, h⟩
    · wp_walk using q1
      exact ⟨_, rfl, h⟩
section
variable {prog : Program} {w : World} {A : Around} {E : Value → Shared → Prop} {s : Shared}
theorem enum_begins1 {v : Value} {o : Obj} {H : Heap → Prop} {Q : Value → Shared → Prop} (B : Begins v o H) (h1 : H s.heap)
    (h : ∀ h', IsEnum h' (s.heap.objs.size + 1) s.heap.objs.size 0 .none → h'.get? s.heap.objs.size = some o → h'.objs.size = s.heap.objs.size + 2 →
      (∀ b o, s.heap.get? b = some o → h'.get? b = some o) → Q (.ref (s.heap.objs.size + 1)) { s with heap := h' }) :
    wpAny (model prog w) A (call (.type "enumerate") [v]) Q E s := by
  refine callType_new F.called_enumerate (by decide) (F.typeCall_enumerate_1 _) (F.newCall_enumerate_1 _) (fun obj => F.args_object_init_2 obj _) F.entry_enumerate_new
    (meets_enumerate_newB1 B) ⟨h1, ?_⟩
  have hz : (s.heap.push o).objs.size = s.heap.objs.size + 1 := Heap.size_push ..
  show _ ∧ _
  rw [hz]
  have he : IsEnum ((s.heap.push o).push { cls := .type "enumerate", data := .fields #[.none, .bool false, .ref s.heap.objs.size, rawInt 0, .none, .none] }) (s.heap.objs.size + 1) s.heap.objs.size 0 .none := by
    have := Heap.get?_push_size (s.heap.push o) (o := { cls := .type "enumerate", data := .fields #[.none, .bool false, .ref s.heap.objs.size, rawInt 0, .none, .none] }) rfl
    rw [hz] at this; exact this
  refine ⟨⟨_, he, rfl⟩, h _ he (Heap.get?_push_of_some _ (Heap.get?_push_size _ B.free)) (by rw [Heap.size_push, hz]) fun b o x => Heap.get?_push_of_some _ (Heap.get?_push_of_some _ x)⟩
end
/-- the tuple at a, each item in a new pair -/
def IteT (K : PySem.W.Frag) (a : Addr) : It :=
  ⟨fun i H => ∃ (xs : List V) (x : V), SqT K H a xs ∧ xs[i]? = some x, fun i H v H' => ∃ T x, v = .ref T ∧ H T = none ∧ H' = upd H T (.tup [.int (i : Nat), x]) ∧ ∀ xs, SqT K H a xs → xs[i]? = some x, fun i H => ∃ xs : List V, SqT K H a xs ∧ xs.length ≤ i⟩
theorem turn_enumT {P : Program} {w : World} {K : PySem.W.Frag} {elts : List Expr} {kk : Nat} {tpos : Pos} (a e it : Addr) :
    Turn P w K (.Tuple elts kk tpos) (IteT K a) [e, it] e (fun i h => (∃ old, IsEnum h e it ((i : Nat) : Int) old) ∧ h.IsTupleIter it a i ∧ e ≠ it ∧ a ≠ it) where
  mem := by simp
  obj := fun i h st b hb => by
    obtain ⟨⟨old, he⟩, ⟨o, ho, hc, hd⟩, _⟩ := st
    have e' : b = e ∨ b = it := by simpa using hb
    rcases e' with z | z
    · rw [z]; exact ⟨_, he, fun v q => nomatch q⟩
    · rw [z]; exact ⟨o, ho, fun v q => by rw [hd] at q; cases q⟩
  keep := fun i h h' st k => let ⟨⟨old, he⟩, hi, hne⟩ := st; ⟨⟨old, k e (by simp) _ he⟩, hi.at fun o q => k it (by simp) o q, hne⟩
  item := by
    intro X hP hw hK hc i pins s σ H E I hf st hg
    subst hP hw hK
    obtain ⟨⟨old, he⟩, hit, hne, hna⟩ := st
    obtain ⟨xs, x, hq, hx⟩ := hg
    obtain ⟨its, rv, p, hz⟩ := I.tuple hq
    obtain ⟨u, hu, ru⟩ := rv.get hx
    have hel : e < s.heap.objs.size := Heap.lt_size he
    have hil : it < s.heap.objs.size := by obtain ⟨_, q, _⟩ := hit; exact Heap.lt_size q
    have hea : e ≠ a := fun z => by
      obtain ⟨o, ho, hc2, _⟩ := p
      rw [← z, he] at ho
      injection ho with ho
      rw [← ho] at hc2
      exact absurd (Value.type.inj hc2) (by decide)
    have hlt : i < its.toArray.size := by
      have := (List.getElem?_eq_some_iff.mp hu).1
      simpa using this
    refine wpAny_pyNext_enum_itemD (Draws.tuple (prog := X.prog) (w := X.w) (A := X.A.in1) (I.ok.hd hc) it a hna its.toArray) he ⟨hit, p⟩ hlt hne (by simp [hne, hea]) fun y h' tk hPy ho hst' hT hsz hk => ?_
    have ey : y = u := by
      have : its.toArray[i]? = some u := by simpa using hu
      rw [this] at hPy; injection hPy with hPy; exact hPy.symm
    subst ey
    refine ⟨_, rfl, wpAny_letOwnedTupleGo_enum (s := { s with heap := h', toks := tk + 1 }) ho fun h'' he' sb => ?_⟩
    have hT2 : h''.get? s.heap.objs.size = some { cls := .type "tuple", data := .seq #[.int i tk, y] } := (sb.2 _ (Nat.ne_of_gt hel)).trans hT
    have new : ObjOk X.prog X.w (upd H s.heap.objs.size (.tup [.int (i : Nat), x])) h'' s.heap.objs.size (.tup [.int (i : Nat), x]) :=
      ⟨by show 2 ≤ sizeLine; decide, [.int i tk, y], .cons ⟨_, rfl⟩ (.cons ru .nil), ⟨_, hT2, rfl, _, rfl⟩⟩
    have I1 : Inv X pins σ (upd H s.heap.objs.size (.tup [.int (i : Nat), x])) { s with heap := h'', toks := tk + 1 } :=
      I.turnedNew (ch := [e, it]) (fun b ob hb q => (sb.2 b (fun z => hb (by simp [z]))).trans (hk b ob (fun z => hb (by simp [z])) (fun z => hb (by simp [z])) q)) hf (Nat.le_refl _) new
    refine ⟨.ref s.heap.objs.size, _, I1, rfl, ⟨_, x, rfl, I.hok.fresh (Nat.le_refl _), rfl, fun ys hy => ?_⟩, ⟨⟨y, ?_⟩, hst'.1.at fun o q => (sb.2 it (Ne.symm hne)).trans q, hne, hna⟩, fun b hb => ?_⟩
    · obtain ⟨its2, rv2, p2, _⟩ := I.tuple hy
      obtain ⟨o1, g1, _, n1, d1⟩ := p
      obtain ⟨o2, g2, _, n2, d2⟩ := p2
      rw [g1] at g2; cases g2
      rw [d1] at d2
      injection d2 with d2 _
      have e2 : its = its2 := by
        have := congrArg Array.toList d2
        simpa using this
      subst e2
      rw [rv.inj rv2] at hx
      exact hx
    · have e1 : ((i + 1 : Nat) : Int) = (i : Int) + 1 := by omega
      rw [e1]; exact he'
    · have hb' : b < s.heap.objs.size := by
        have e' : b = e ∨ b = it := by simpa using hb
        rcases e' with z | z
        · rw [z]; exact hel
        · rw [z]; exact hil
      rw [upd_ne (Nat.ne_of_lt hb')]
      exact (hf b hb).1
  done := by
    intro X hP hw hK hc i pins s σ H E I hf st hg
    subst hP hw hK
    obtain ⟨⟨old, he⟩, hit, hne, hna⟩ := st
    obtain ⟨xs, hq, hx⟩ := hg
    obtain ⟨its, rv, p, hz⟩ := I.tuple hq
    obtain ⟨f0, f1, f2, f3, f4, f5⟩ := hf it (by simp)
    have hl := rv.length
    have hT : s.TypeIs (.ref e) "enumerate" := ⟨_, he, rfl⟩
    unfold pyNext
    refine wpAny_bind (wpAny_attempt (wpAny_callSpecial?_slot (name := Str.ofString "__next__") hT F.slot_enumerate_next
      (wpAny_call_entry F.slot_enumerate_next hT F.entry_enumerate_next ?_ (F.args_enumerate_next_1 _))))
    show wpAny _ _ (field (.ref e) 2 >>= _) _ _ _
    refine wpAny_bind (wpAny_field he rfl (x := .ref it) rfl ?_)
    refine wpAny_bind (wpAny_nextOf_tuple_end (I.ok.hd hc) hit p (by simp; omega) fun h' x' he' hx' => ?_)
    obtain ⟨o, ho, hc'⟩ := hx'
    refine wpAny_bind (wpAny_isInstance (T := "StopIteration") (b := true) ⟨o, ho, hc'⟩ isSubtype_stop ?_)
    exact wpAny_pure ⟨rfl, I.turned (t' := s.toks) (fun b o hb q => he' b o hb q) f0 f1 f3 f4 f5⟩
  self := fun A i s Q E st h => let ⟨⟨_, he⟩, _⟩ := st; wpAny_pyIter_enum he h
def iEnumT (K : PySem.W.Frag) (ta : TA) : TI := fun σ H R => ta σ H fun vs H1 => ∃ a xs, vs = [.ref a] ∧ SqT K H1 a xs ∧ R (IteT K a) H1
theorem pi_enumT {X : Cx} {e : Expr} {ta : TA} {p pos tpos : Pos} {elts : List Expr} {kk : Nat} (hg : Gl X "enumerate") (hm : X.mg "enumerate" = none) (ha : PA X [e] ta) (hs : starEach [e] X.env = [(false, eval e X.env)] := by rfl) :
    PI X (.Tuple elts kk tpos) (.Call (.Name "enumerate" p) [e] [] pos) (iEnumT X.K ta) := by
  refine ⟨fun pins s σ H R I h => ?_⟩
  refine Call_ (ld_blt I hg hm boot_enumerate (PyProof.Rows.callWith_type1 (thn (ha.run pos pins s σ H _ I h) fun us s1 ⟨vs, H1, I1, r1, q1⟩ => ?_) hs rfl))
  obtain ⟨a, xs, ex, hq, q⟩ := q1
  subst ex
  cases r1 with
  | cons r rr =>
    cases rr
    cases r
    obtain ⟨its, rv, p', hz⟩ := I1.tuple hq
    have hlt : a < s1.heap.objs.size := p'.lt
    refine enum_begins1 (begins_tuple a its.toArray) p' fun h' he hit hsz hk => wpAny_pyIter_enum he ?_
    have I2 : Inv X pins σ H1 { s1 with heap := h' } := I1.kept (t' := s1.toks) hk
    refine ⟨s1.heap.objs.size + 1, [s1.heap.objs.size + 1, s1.heap.objs.size], _, _, H1, rfl, I2, turn_enumT a (s1.heap.objs.size + 1) s1.heap.objs.size, ⟨⟨.none, he⟩, ⟨_, hit, rfl, rfl⟩, Nat.succ_ne_self _, Nat.ne_of_lt hlt⟩, fun b hb => ?_, q⟩
    have e' : b = s1.heap.objs.size + 1 ∨ b = s1.heap.objs.size := by simpa using hb
    have hle : s1.heap.objs.size ≤ b := by
      rcases e' with z | z
      · rw [z]; exact Nat.le_add_right _ _
      · rw [z]; exact Nat.le_refl _
    exact I1.fpOk hle (I1.hok.fresh hle)
def dEnT (f : TD) : TID := fun ρ n Q => f ρ n fun r ρ' n' => asT r fun ds => Q (enumD ds) ρ' n'
theorem fi_enumT {X : Cx} {b : Bool} {e : Expr} {f : TD} {p pos : Pos} {elts : List Expr} {kk : Nat} {tpos : Pos} (hm : X.mg "enumerate" = none) (h : FE X e f) (hg : Gl X "enumerate" := by rfl) (hs : starEach [e] X.env = [(false, eval e X.env)] := by rfl) :
    FI b true X (.Tuple elts kk tpos) (.Call (.Name "enumerate" p) [e] [] pos) (dEnT f) := by
  refine ⟨fun ρ n Q Q' m q => h.mono _ _ _ _ (fun r ρ1 n1 q => asT_mono (fun _ q => m _ _ _ q) q) q, pi_weak (pi_enumT hg hm (fa_cons h fa_nil (hs := hs)).pa hs) ?_⟩
  rintro σ H Rr ⟨c, ρ, n, Hs, D, q⟩
  refine one_pa h.mono ⟨c, ρ, n, Hs, D, h.mono _ _ _ _ (fun r ρ1 n1 q v Hs1 H1 D1 R1 E1 F1 => ?_) q⟩
  obtain ⟨ds, rfl, q2⟩ := asT_inv q
  cases R1 with
  | tup e1 q1 =>
    rename_i a vs
    have hl : (enumD ds).length = ds.length := by simp [enumD]
    refine ⟨a, vs, rfl, (e1.mono D1.sub).sq, q2 _ _ _ D1 E1 ⟨fun i Hs3 H3 hi s => ?_, fun Hs3 H3 s => ?_, fun i Hs3 H3 x H' hi s y => ?_⟩⟩
    · rw [hl] at hi
      obtain ⟨d, hd⟩ : ∃ d, ds[i]? = some d := ⟨ds[i], List.getElem?_eq_getElem hi⟩
      obtain ⟨v, hv, _⟩ := dpAll_get q1 hd
      exact ⟨vs, v, ((e1.mono s.1).mono s.2.1).sq, hv⟩
    · exact ⟨vs, ((e1.mono s.1).mono s.2.1).sq, by rw [dpAll_len q1, hl]; exact Nat.le_refl _⟩
    · rw [hl] at hi
      obtain ⟨T, y0, rfl, hT, rfl, y⟩ := y
      obtain ⟨d, hd⟩ : ∃ d, ds[i]? = some d := ⟨ds[i], List.getElem?_eq_getElem hi⟩
      obtain ⟨v, hv, hq⟩ := dpAll_get q1 hd
      have := y vs (((e1.mono s.1).mono s.2.1).sq)
      rw [hv] at this; cases this
      refine ⟨.tuple [.int (i : Int), d], ?_, .inr ⟨rfl, T, _, _, rfl, hT, rfl, .cons (.int _) (.cons (dp_mono s.1 hq) .nil), rfl⟩⟩
      simp [enumD, List.getElem?_zipIdx, hd]
end DL

namespace DL
open PySem PySem.Spec PyProof.Rows L2
/-! ### t.index(k), xs.count(k) -/
def dIdx (f g : TD) : TD := fun ρ n Q => f ρ n fun r ρ1 n1 => asT r fun ds => g ρ1 n1 fun r' ρ2 n2 => asI r' fun k => ∃ ns : List Int, ds = ns.map PyData.int ∧ k ∈ ns ∧ Q (vI (ns.idxOf k : Nat)) ρ2 n2
def dCnt (f g : TD) : TD := fun ρ n Q => f ρ n fun r ρ1 n1 => asL r fun ds => g ρ1 n1 fun r' ρ2 n2 => asI r' fun k => ∃ ns : List Int, ds = ns.map PyData.int ∧ Q (vI (ns.count k : Nat)) ρ2 n2
section
variable {X : Cx} {o e : Expr} {f g : TD} {apos cpos : Pos}
theorem fe_m_index (ho : FE X o f) (he : FE X e g)
    (hbase : attributeBase o "index" X.env (eval o X.env) = eval o X.env := by rfl)
    (hfew : ((backTo cpos (starEach [e] X.env)).all (fun x => !x.1) && (backToKw cpos (keywordEach [] X.env)).all (fun x => x.1.isSome)
      && decide ([e].length + ([] : List Keyword).length + (if ([] : List Keyword).isEmpty then 0 else 1) < 30)) = true := by rfl)
    (hline : (apos.endLine == cpos.line) = true := by rfl) (hs : starEach [e] X.env = (false, eval e X.env) :: starEach [] X.env := by rfl) (hplain : (backTo cpos (starEach [] X.env)).any (·.1) = false := by rfl) :
    FE X (.Call (.Attribute o "index" apos) [e] [] cpos) (dIdx f g) := by
  refine ⟨fun ρ n Q Q' m q => ho.mono _ _ _ _ (fun r ρ1 n1 q => asT_mono (fun ds q => he.mono _ _ _ _ (fun r ρ2 n2 q => asI_mono (fun k ⟨ns, e, hk, q⟩ => ⟨ns, e, hk, m _ _ _ q⟩) q) q) q) q, pe_weak (pe_indexT ho.pe he.pe hbase hfew hline hs hplain) ?_⟩
  rintro σ H Q ⟨c, ρ, n, Hs, D, q⟩
  refine ⟨c, ρ, n, Hs, D, ho.mono _ _ _ _ (fun r ρ1 n1 q v Hs1 H1 D1 R1 E1 F1 => ?_) q⟩
  obtain ⟨ds, rfl, q⟩ := asT_inv q
  cases R1 with
  | tup e1 q1 =>
    refine ⟨_, _, rfl, e1.mono D1.sub, c, ρ1, n1, Hs1, D1, he.mono _ _ _ _ (fun r ρ2 n2 q v Hs2 H2 D2 R2 E2 F2 => ?_) q⟩
    obtain ⟨k, rfl, ns, rfl, hk, q⟩ := asI_inv q
    cases R2
    have := dpAll_ints_inv q1
    subst this
    exact ⟨k, ns, rfl, (e1.mono E2.sh).mono D2.sub, hk, q _ _ _ D2 (.int _) (E1.trans D1 E2) trivial⟩
theorem fe_m_count (ho : FE X o f) (he : FE X e g)
    (hbase : attributeBase o "count" X.env (eval o X.env) = eval o X.env := by rfl)
    (hfew : ((backTo cpos (starEach [e] X.env)).all (fun x => !x.1) && (backToKw cpos (keywordEach [] X.env)).all (fun x => x.1.isSome)
      && decide ([e].length + ([] : List Keyword).length + (if ([] : List Keyword).isEmpty then 0 else 1) < 30)) = true := by rfl)
    (hline : (apos.endLine == cpos.line) = true := by rfl) (hs : starEach [e] X.env = (false, eval e X.env) :: starEach [] X.env := by rfl) (hplain : (backTo cpos (starEach [] X.env)).any (·.1) = false := by rfl) :
    FE X (.Call (.Attribute o "count" apos) [e] [] cpos) (dCnt f g) := by
  refine ⟨fun ρ n Q Q' m q => ho.mono _ _ _ _ (fun r ρ1 n1 q => asL_mono (fun ds q => he.mono _ _ _ _ (fun r ρ2 n2 q => asI_mono (fun k ⟨ns, e, q⟩ => ⟨ns, e, m _ _ _ q⟩) q) q) q) q,
    pe_weak (pe_bm PySem.F.plainAttrs_list PySem.F.slot_list_count PySem.F.type_list_count mt_lcount ho.pe (pa_cons he.pe pa_nil hs) hbase hfew hline hs hplain) ?_⟩
  rintro σ H Q ⟨c, ρ, n, Hs, D, q⟩
  refine ⟨c, ρ, n, Hs, D, ho.mono _ _ _ _ (fun r ρ1 n1 q v Hs1 H1 D1 R1 E1 F1 => ?_) q⟩
  obtain ⟨a, vs, ds, rfl, h1, _, _⟩ := asL_at R1.obs D1.sub q
  have key : ∀ ds', asL r (fun ds => ds = ds') → g ρ1 n1 (fun r' ρ2 n2 => asI r' fun k => ∃ ns : List Int, ds' = ns.map PyData.int ∧ ∀ v Hs' H', DRel c ρ2 n2 σ Hs' H' → RRel c ρ2 σ Hs' H' (vI (ns.count k : Nat)) v → Ext c σ ρ Hs H ρ2 Hs' H' → Fresh H (vI (ns.count k : Nat)) v → Q v H') →
      tyV X.K "list" (.ref a) H1 ∧ tCons (teE g) tNil σ H1 fun xs H2 => rCntI X.K (.ref a) xs H2 Q := by
    intro ds' hd hg
    refine ⟨.inl ⟨rfl, vs, SqL.of h1⟩, c, ρ1, n1, Hs1, D1, he.mono _ _ _ _ (fun r' ρ2 n2 q v Hs2 H2 D2 R2 E2 F2 => ?_) hg⟩
    obtain ⟨k, rfl, ns, rfl, q3⟩ := asI_inv q
    cases R2
    obtain ⟨a', vs', ds2, e', g1, g2, e2⟩ := asL_at (R1.obs.ext E2.sh E2.st) D2.sub hd
    cases e'
    subst e2
    rw [dpAll_ints_inv g2] at g1
    exact ⟨a, ns, k, rfl, rfl, SqL.of g1, q3 _ _ _ D2 (.int _) (E1.trans D1 E2) trivial⟩
  revert key q
  unfold asL
  split
  · exact fun q key => key _ rfl q
  · exact fun q key => key _ rfl q
  · exact fun q key => key _ rfl q
  · exact fun q _ => q.elim
end
/-! ### dicts from ints to ints -/
def kvM (kvs : List (Int × Int)) : List (Key × V) := kvs.map fun p => ((Sum.inl p.1 : Key), V.int p.2)
def getZ (kvs : List (Int × Int)) (k : Int) : Option Int := (kvs.find? fun p => decide (p.1 = k)).map (·.2)
def putZ (kvs : List (Int × Int)) (k v : Int) : List (Int × Int) := if (kvs.any fun p => decide (p.1 = k)) = true then kvs.map (fun p => if p.1 = k then (p.1, v) else p) else kvs ++ [(k, v)]
def mergeZ (kvs : List (Int × Int)) : List (Int × Int) := kvs.foldl (fun acc p => putZ acc p.1 p.2) []
theorem inl_iff {i k : Int} : ((Sum.inl i : Key) = Sum.inl k) ↔ i = k := ⟨fun e => Sum.inl.inj e, fun e => by rw [e]⟩
theorem valV_kvM (kvs : List (Int × Int)) (k : Int) : valV (kvM kvs) (.inl k) = (getZ kvs k).map V.int := by
  unfold valV getZ kvM
  induction kvs with
  | nil => rfl
  | cons p r ih =>
    rw [List.map_cons, List.find?_cons, List.find?_cons]
    by_cases e : p.1 = k
    · have e2 : decide ((Sum.inl p.1 : Key) = Sum.inl k) = true := decide_eq_true (by rw [e])
      simp only [e2, decide_eq_true e, Option.map_some]
    · have e2 : decide ((Sum.inl p.1 : Key) = Sum.inl k) = false := decide_eq_false fun z => e (inl_iff.mp z)
      simp only [e2, decide_eq_false e]
      exact ih
theorem putK_kvM (kvs : List (Int × Int)) (k v : Int) : putK (kvM kvs) (.inl k) (.int v) = kvM (putZ kvs k v) := by
  have h : ((kvM kvs).any fun kv => decide (kv.1 = (Sum.inl k : Key))) = kvs.any fun p => decide (p.1 = k) := by
    unfold kvM
    rw [List.any_map]
    congr 1
    funext p
    by_cases e : p.1 = k
    · simp [Function.comp, e]
    · have e2 : ¬ ((Sum.inl p.1 : Key) = Sum.inl k) := fun z => e (inl_iff.mp z)
      simp [Function.comp, e]
  unfold putK putZ
  rw [h]
  split
  · unfold kvM
    rw [List.map_map, List.map_map]
    apply List.map_congr_left
    intro p _
    simp only [Function.comp]
    by_cases e : p.1 = k
    · rw [if_pos e, if_pos (by rw [e])]
    · rw [if_neg e, if_neg fun z => e (inl_iff.mp z)]
  · simp [kvM]
theorem mergeK_kvM (kvs : List (Int × Int)) : mergeK [] (kvM kvs) = kvM (mergeZ kvs) := by
  have : ∀ (more acc : List (Int × Int)), mergeK (kvM acc) (kvM more) = kvM (more.foldl (fun acc p => putZ acc p.1 p.2) acc) := by
    intro more
    induction more with
    | nil => intro acc; rfl
    | cons p r ih =>
      intro acc
      rw [List.foldl_cons, ← ih]
      show mergeK (putK (kvM acc) (Sum.inl p.1) (V.int p.2)) (kvM r) = _
      rw [putK_kvM]
  exact this kvs []
def isOwnD (s : Option Sl) : Prop := match s with | some (.own (.dct _)) => True | _ => False
def asOD (s : Option Sl) (k : List (Int × Int) → Prop) : Prop := match s with | some (.own (.dct kvs)) => k kvs | _ => False
theorem asOD_inv {s : Option Sl} {k : List (Int × Int) → Prop} (h : asOD s k) : ∃ kvs, s = some (.own (.dct kvs)) ∧ k kvs := by
  unfold asOD at h; split at h
  · exact ⟨_, rfl, h⟩
  · exact h.elim
theorem asOD_mono {s : Option Sl} {k k' : List (Int × Int) → Prop} (m : ∀ x, k x → k' x) (h : asOD s k) : asOD s k' := by
  obtain ⟨kvs, rfl, h⟩ := asOD_inv h; exact m _ h
def asS (o : Option Int) (k : Int → Prop) : Prop := match o with | some v => k v | none => False
theorem asS_inv {o : Option Int} {k : Int → Prop} (h : asS o k) : ∃ v, o = some v ∧ k v := by
  unfold asS at h; split at h
  · exact ⟨_, rfl, h⟩
  · exact h.elim
theorem asS_mono {o : Option Int} {k k' : Int → Prop} (m : ∀ x, k x → k' x) (h : asS o k) : asS o k' := by
  obtain ⟨v, rfl, h⟩ := asS_inv h; exact m _ h
section
variable {c : Bs} {ρ : DEnv} {n : Nat} {σ : SV} {Hs H : Hp}
theorem isOwnD_at {i : Nat} (D : DRel c ρ n σ Hs H) (h : isOwnD ρ[i]?) : ∃ kvs a, ρ[i]? = some (.own (.dct kvs)) ∧ σ[i]? = some (some (.ref a)) ∧ H a = some (.dK (kvM kvs)) := by
  unfold isOwnD at h
  split at h
  · rename_i kvs e
    have s := D.slot i
    rw [e] at s
    obtain ⟨a, e2, ho, h1, h2, _⟩ := s
    cases ho with
    | dK kv =>
      have h2 : kv = kvM kvs := h2
      exact ⟨kvs, a, e, e2, by rw [h1, h2]⟩
    | _ => exact h2.elim
  · exact h.elim
theorem ownD_at {i : Nat} {kvs : List (Int × Int)} (D : DRel c ρ n σ Hs H) (e : ρ[i]? = some (.own (.dct kvs))) : ∃ a, σ[i]? = some (some (.ref a)) ∧ H a = some (.dK (kvM kvs)) := by
  obtain ⟨kvs', a, e1, e2, e3⟩ := isOwnD_at D (by rw [e]; trivial)
  rw [e] at e1; cases e1
  exact ⟨a, e2, e3⟩
theorem After.ownD {kvs : List (Int × Int)} {p : Addr} {Qd : R → Prop} {Q : VK} (k : After c σ ρ n Hs H Qd Q) (D : DRel c ρ n σ Hs H) (hp : H p = none) (q : Qd (.own (.dct kvs))) : Q (.ref p) (upd H p (.dK (kvM kvs))) := by
  obtain ⟨D', E, h1, h2, h3, h4⟩ := D.newOwn (o := .dK (kvM kvs)) hp
  refine k (.own (.dct kvs)) _ _ _ D' ⟨p, rfl, ⟨_, upd_same, rfl, h1, h2, h3⟩, h4⟩ E (fun a e => ?_) q
  cases e; exact hp
end
/-- {} -/
def dDNew : TD := fun ρ n Q => Q (.own (.dct [])) ρ n
def dDIx (i : Nat) (f : TD) : TD := fun ρ n Q => isOwnD ρ[i]? ∧ f ρ n fun r ρ' n' => asI r fun k => asOD ρ'[i]? fun kvs => asS (getZ kvs k) fun v => Q (vI v) ρ' n'
def dDGet (i : Nat) (f g : TD) : TD := fun ρ n Q => isOwnD ρ[i]? ∧ f ρ n fun r ρ1 n1 => asI r fun k => g ρ1 n1 fun r' ρ2 n2 => asI r' fun z => asOD ρ2[i]? fun kvs => Q (vI ((getZ kvs k).getD z)) ρ2 n2
def dDSet (i : Nat) (f g : TD) : TSD := fun D ρ n => f ρ n fun r ρ1 n1 => asI r fun v => isOwnD ρ1[i]? ∧ g ρ1 n1 fun k ρ2 n2 => asI k fun k => asOD ρ2[i]? fun kvs => kvs.length < 1000 ∧ D.nx (ρ2.set i (.own (.dct (putZ kvs k v)))) n2
def dSortedD (i : Nat) : TD := fun ρ n Q => asOD ρ[i]? fun kvs => kvs.length < 64 ∧ Q (.own (.lst ((srt (kvs.map (·.1))).map .int))) ρ n
def dListD (i : Nat) : TD := fun ρ n Q => asOD ρ[i]? fun kvs => Q (.own (.lst ((kvs.map (·.1)).map .int))) ρ n
def pairZ (p : Int × Int) : PyData := .tuple [.int p.1, .int p.2]
def fDict : F1 := fun r Q => asL r fun ds => ∃ kvs : List (Int × Int), ds = kvs.map pairZ ∧ Q (.own (.dct (mergeZ kvs)))
def dNeD (f : TD) (j : Nat) : TD := fun ρ n Q => f ρ n fun r ρ1 n1 => match r with | .own (.dct ks) => asOD ρ1[j]? fun ls => ks.length = ls.length ∧ (∀ p ∈ ks, getZ ls p.1 = some p.2) ∧ Q (vB false) ρ1 n1 | _ => False
section
variable {X : Cx} {x : Str} {xpos pos apos cpos : Pos} {e e2 : Expr} {f g : TD}
theorem fe_dNew : FE X (.Dict [] [] pos) dDNew := by
  refine ⟨fun ρ n Q Q' m h => m _ _ _ h, pe_weak pe_dnewK ?_⟩
  rintro σ H Q ⟨c, ρ, n, Hs, D, q⟩ p hp
  obtain ⟨D', E, h1, h2, h3, h4⟩ := D.newOwn (o := .dK []) hp
  refine q _ _ _ D' ⟨p, rfl, ⟨_, upd_same, rfl, h1, h2, h3⟩, h4⟩ E fun a e => ?_
  cases e; exact hp
theorem fe_dIx (i : Nat) (hr : X.A.units + 64 < cLine) (he : FE X e f) (hN : X.N[i]? = some x := by rfl) (hv : Vis X.env.scope x := by first | exact Or.inl rfl | exact Or.inr (Or.inl rfl) | exact Or.inr (Or.inr rfl)) (hd : (x == ("__debug__" : Str)) = false := by decide)
    (hcd : (x == ("__classdict__" : Str)) = false := by decide) (hs : NoSl e := by exact fun _ _ => rfl) : FE X (.Subscript (.Name x xpos) e pos) (dDIx i f) := by
  refine ⟨fun ρ n Q Q' m h => ⟨h.1, he.mono _ _ _ _ (fun r ρ1 n1 h => asI_mono (fun k h => asOD_mono (fun kvs h => asS_mono (fun v h => m _ _ _ h) h) h) h) h.2⟩, pe_weak (pe_dget (by omega) (pe_var hN hv hd hcd) he.pe hs) ?_⟩
  rintro σ H Q ⟨c, ρ, n, Hs, D, q0, q⟩
  obtain ⟨_, a, _, e1, _⟩ := isOwnD_at D q0
  refine ⟨_, e1, c, ρ, n, Hs, D, he.mono _ _ _ _ (fun r ρ1 n1 q v Hs1 H1 D1 R1 E1 F1 => ?_) q⟩
  obtain ⟨k, rfl, q2⟩ := asI_inv q
  cases R1
  obtain ⟨kvs, e3, q3⟩ := asOD_inv q2
  obtain ⟨a', e4, e5⟩ := ownD_at D1 e3
  rw [e1] at e4; cases e4
  obtain ⟨z, ez, q4⟩ := asS_inv q3
  refine ⟨a, .int z, rfl, ?_, q4 _ _ _ D1 (.int _) E1 trivial⟩
  have := DGet.k (k := .inl k) e5
  rw [valV_kvM, ez] at this
  exact this
theorem fe_m_get (i : Nat) (hr : X.A.units + 64 < cLine) (he : FE X e f) (hg : FE X e2 g) (hN : X.N[i]? = some x := by rfl) (hv : Vis X.env.scope x := by first | exact Or.inl rfl | exact Or.inr (Or.inl rfl) | exact Or.inr (Or.inr rfl)) (hd : (x == ("__debug__" : Str)) = false := by decide)
    (hcd : (x == ("__classdict__" : Str)) = false := by decide) (m : M2 X (.Name x xpos) "get" apos e e2 cpos := by exact ⟨rfl, rfl, rfl, rfl⟩) : FE X (.Call (.Attribute (.Name x xpos) "get" apos) [e, e2] [] cpos) (dDGet i f g) := by
  refine ⟨fun ρ n Q Q' m h => ⟨h.1, he.mono _ _ _ _ (fun r ρ1 n1 h => asI_mono (fun k h => hg.mono _ _ _ _ (fun r ρ2 n2 h => asI_mono (fun z h => asOD_mono (fun kvs h => m _ _ _ h) h) h) h) h) h.2⟩, pe_weak (pe_dget2 (by omega) (pe_var hN hv hd hcd) he.pe hg.pe m) ?_⟩
  rintro σ H Q ⟨c, ρ, n, Hs, D, q0, q⟩
  obtain ⟨_, a, _, e1, e0⟩ := isOwnD_at D q0
  refine ⟨_, e1, a, rfl, .inl ⟨_, .inl e0⟩, c, ρ, n, Hs, D, he.mono _ _ _ _ (fun r ρ1 n1 q v Hs1 H1 D1 R1 E1 F1 => ?_) q⟩
  obtain ⟨k, rfl, q2⟩ := asI_inv q
  cases R1
  refine ⟨c, ρ1, n1, Hs1, D1, hg.mono _ _ _ _ (fun r ρ2 n2 q v Hs2 H2 D2 R2 E2 F2 => ?_) q2⟩
  obtain ⟨z, rfl, q3⟩ := asI_inv q
  cases R2
  obtain ⟨kvs, e3, q4⟩ := asOD_inv q3
  obtain ⟨a', e4, e5⟩ := ownD_at D2 e3
  rw [e1] at e4; cases e4
  refine ⟨valV (kvM kvs) (.inl k), DGet.k (k := .inl k) e5, ?_⟩
  rw [valV_kvM]
  have := q4 (.int ((getZ kvs k).getD z)) _ _ D2 (.int _) (E1.trans D1 E2) trivial
  cases hz : getZ kvs k with
  | none => rw [hz] at this; exact this
  | some w => rw [hz] at this; exact this
theorem fs_dSet (i : Nat) (hr : X.A.units + 64 < cLine) (he : FE X e f) (hg : FE X e2 g) (hN : X.N[i]? = some x := by rfl) (hv : Vis X.env.scope x := by first | exact Or.inl rfl | exact Or.inr (Or.inl rfl) | exact Or.inr (Or.inr rfl)) (hd : (x == ("__debug__" : Str)) = false := by decide)
    (hcd : (x == ("__classdict__" : Str)) = false := by decide) (hs : swapsWith e (some (.Subscript (.Name x xpos) e2 apos)) pos.line X.env = pure false := by rfl) :
    FS X (.Assign [.Subscript (.Name x xpos) e2 apos] e pos) (dDSet i f g) := by
  refine ⟨fun D D' ρ n le h => he.mono _ _ _ _ (fun r ρ1 n1 h => asI_mono (fun v h => ⟨h.1, hg.mono _ _ _ _ (fun r ρ2 n2 h => asI_mono (fun k h => asOD_mono (fun kvs h => ⟨h.1, le.nx _ _ h.2⟩) h) h) h.2⟩) h) h, ps_weak (ps_dput (by omega) (pe_var hN hv hd hcd) hg.pe he.pe hs) ?_⟩
  rintro D σ H ⟨c, ρ, n, Hs, d, q⟩
  refine ⟨c, ρ, n, Hs, d, he.mono _ _ _ _ (fun r ρ1 n1 q v Hs1 H1 d1 R1 E1 F1 => ?_) q⟩
  obtain ⟨z, rfl, q0, q⟩ := asI_inv q
  cases R1
  obtain ⟨_, a, _, e1, _⟩ := isOwnD_at d1 q0
  refine ⟨_, e1, c, ρ1, n1, Hs1, d1, hg.mono _ _ _ _ (fun r ρ2 n2 q v Hs2 H2 d2 R2 E2 F2 => ?_) q⟩
  obtain ⟨k, rfl, q2⟩ := asI_inv q
  cases R2
  obtain ⟨kvs, e3, hl, q3⟩ := asOD_inv q2
  obtain ⟨a', e4, e5⟩ := ownD_at d2 e3
  rw [e1] at e4; cases e4
  refine ⟨a, _, rfl, DPut.k (k := .inl k) (v := .int z) e5 (small20' (by unfold kvM; rw [List.length_map]; omega)), q3 _ _ _ ?_ (E1.sh.trans E2.sh)⟩
  rw [putK_kvM]
  exact DRel.writeSlot d2 e3 e1 (o' := .dct (putZ kvs k z)) (show OwnRel _ _ _ from rfl)
theorem fe_sortedD (i : Nat) (hc : X.calm = true) {p : Pos} (hm : X.mg "sorted" = none) (hN : X.N[i]? = some x := by rfl) (hv : Vis X.env.scope x := by first | exact Or.inl rfl | exact Or.inr (Or.inl rfl) | exact Or.inr (Or.inr rfl)) (hd : (x == ("__debug__" : Str)) = false := by decide)
    (hcd : (x == ("__classdict__" : Str)) = false := by decide) (hg : Gl X "sorted" := by rfl) (hst : starEach [.Name x xpos] X.env = (false, eval (.Name x xpos) X.env) :: starEach [] X.env := by rfl) : FE X (.Call (.Name "sorted" p) [.Name x xpos] [] pos) (dSortedD i) := by
  refine ⟨fun ρ n Q Q' m h => asOD_mono (fun kvs h => ⟨h.1, m _ _ _ h.2⟩) h, pe_weak (pe_callB (call_sortedDI hc) hg hm (by decide +kernel) (pa_cons (pe_var hN hv hd hcd) pa_nil hst) (he := hst)) ?_⟩
  rintro σ H Q ⟨c, ρ, n, Hs, D, q⟩
  obtain ⟨kvs, e3, hl, q⟩ := asOD_inv q
  obtain ⟨a, e4, e5⟩ := ownD_at D e3
  refine ⟨_, e4, a, kvM kvs, kvs.map (·.1), rfl, .inl e5, by unfold kvM; simp, by rw [List.length_map]; exact hl, fun ys p pm so hp => ?_⟩
  have ey : ys = srt (kvs.map (·.1)) := srt_of pm so
  subst ey
  obtain ⟨D', E, h1, h2, h3, h4⟩ := D.newOwn (o := .lst ((srt (kvs.map (·.1))).map V.int)) hp
  refine q _ _ _ D' ⟨p, rfl, ⟨_, upd_same, dpAll_ints _, h1, h2, h3⟩, h4⟩ E fun a e => ?_
  cases e; exact hp
theorem fe_listD (i : Nat) (hc : X.calm = true) {p : Pos} (hm : X.mg "list" = none) (hN : X.N[i]? = some x := by rfl) (hv : Vis X.env.scope x := by first | exact Or.inl rfl | exact Or.inr (Or.inl rfl) | exact Or.inr (Or.inr rfl)) (hd : (x == ("__debug__" : Str)) = false := by decide)
    (hcd : (x == ("__classdict__" : Str)) = false := by decide) (hg : Gl X "list" := by rfl) (hst : starEach [.Name x xpos] X.env = (false, eval (.Name x xpos) X.env) :: starEach [] X.env := by rfl) : FE X (.Call (.Name "list" p) [.Name x xpos] [] pos) (dListD i) := by
  refine ⟨fun ρ n Q Q' m h => asOD_mono (fun kvs h => m _ _ _ h) h, pe_weak (pe_callTy (call_list_dK hc) hg hm (by decide +kernel) (pa_cons (pe_var hN hv hd hcd) pa_nil hst) (he := hst)) ?_⟩
  rintro σ H Q ⟨c, ρ, n, Hs, D, q⟩
  obtain ⟨kvs, e3, q⟩ := asOD_inv q
  obtain ⟨a, e4, e5⟩ := ownD_at D e3
  refine ⟨_, e4, a, kvM kvs, rfl, e5, fun p hp => ?_⟩
  have ev : (kvM kvs).map (fun kv => kV kv.1) = (kvs.map (·.1)).map V.int := by unfold kvM; simp [kV]
  rw [ev]
  obtain ⟨D', E, h1, h2, h3, h4⟩ := D.newOwn (o := .lst ((kvs.map (·.1)).map V.int)) hp
  refine q _ _ _ D' ⟨p, rfl, ⟨_, upd_same, dpAll_ints _, h1, h2, h3⟩, h4⟩ E fun a e => ?_
  cases e; exact hp
theorem pairs_at {Hs : Hp} : ∀ {kvs : List (Int × Int)} {vs : List V}, DqAll Hs vs (kvs.map pairZ) → ∃ ps : List Addr, vs = ps.map V.ref ∧ Paired (fun p (kv : Key × V) => Tup Hs p [kV kv.1, kv.2]) ps (kvM kvs)
  | [], _, .nil => ⟨[], rfl, .nil⟩
  | p :: r, _, .cons h t => by
    obtain ⟨ps, rfl, hp⟩ := pairs_at t
    cases h with
    | tup e q =>
      have := dpAll_ints_inv (ns := [p.1, p.2]) q
      subst this
      exact ⟨_ :: ps, rfl, .cons e hp⟩
theorem fe_dictOf (hc : X.calm = true) {t : TAD} {p : Pos} (hm : X.mg "dict" = none) (ha : FA X [e] t) (hg : Gl X "dict" := by rfl) (he : starEach [e] X.env = (false, eval e X.env) :: starEach [] X.env := by rfl) : FE X (.Call (.Name "dict" p) [e] [] pos) (dCB (f1N fDict) t) := by
  refine fe_callTy (call_dictP hc) (sim_1N fun c ρ n σ Hs H r x Qd Q D o h k => ?_) (mono_1N fun r Q Q' m h => asL_mono (fun _ ⟨kvs, e, h⟩ => ⟨kvs, e, m _ h⟩) h) hm ha (hg := hg) (he := he)
  obtain ⟨a, vs, ds, rfl, hs, q1, kvs, rfl, h⟩ := asL_at o D.sub h
  obtain ⟨ps, rfl, hp⟩ := pairs_at q1
  refine ⟨a, ps, kvM kvs, rfl, SqL.of hs, Paired.mapP hp fun p kv e => (e.mono D.sub).sq, fun p hp => ?_⟩
  rw [mergeK_kvM]
  exact k.ownD D hp h
theorem mono_neD {j : Nat} (hf : MonoE f) : MonoE (dNeD f j) := fun ρ n Q Q' m q => hf _ _ _ _ (fun r ρ1 n1 q => by
  revert q; split
  · exact asOD_mono fun ls h => ⟨h.1, h.2.1, m _ _ _ h.2.2⟩
  · exact id) q
theorem neD_weak {j : Nat} (hf : MonoE f) : ∀ σ H Q, teE (dNeD f j) σ H Q → tOp rNeDA (teE f) (tVar j) σ H Q := by
  rintro σ H Q ⟨c, ρ, n, Hs, D, q⟩
  refine ⟨c, ρ, n, Hs, D, hf _ _ _ _ (fun r ρ1 n1 q v Hs1 H1 D1 R1 E1 F1 => ?_) q⟩
  revert q; split
  · rename_i ks
    intro q
    obtain ⟨ls, e1, hl, hp, q⟩ := asOD_inv q
    obtain ⟨a, e4, e5⟩ := ownD_at D1 e1
    obtain ⟨b, rfl, ⟨ho, g1, g2, _⟩, _⟩ := R1
    cases ho with
    | dK kv =>
      have g2 : kv = kvM ks := g2
      subst g2
      refine ⟨_, e4, b, a, kvM ks, kvM ls, rfl, rfl, g1, e5, by unfold kvM; simpa using hl, fun p hp' => ?_, q _ _ _ D1 (.bl _) E1 trivial⟩
      obtain ⟨z, hz, rfl⟩ := List.mem_map.mp hp'
      refine ⟨?_, rfl⟩
      show valV (kvM ls) (.inl z.1) = some (.int z.2)
      rw [valV_kvM, hp z hz]; rfl
    | _ => exact g2.elim
  · exact fun h => h.elim
theorem ft_neD (j : Nat) (hr : X.A.units + 64 < cLine) (he : FE X e f) (hN : X.N[j]? = some x := by rfl) (hv : Vis X.env.scope x := by first | exact Or.inl rfl | exact Or.inr (Or.inl rfl) | exact Or.inr (Or.inr rfl)) (hd : (x == ("__debug__" : Str)) = false := by decide)
    (hcd : (x == ("__classdict__" : Str)) = false := by decide) : FT X (.Compare e [.NotEq] [.Name x xpos] pos) (dTest (dNeD f j)) :=
  ⟨fun ρ n Q Q' k q => mono_neD he.mono _ _ _ _ (fun r ρ1 n1 q => asB_mono (fun b q => k _ _ _ q) q) q, pt_weak (pt_cmpR (op_ne_dictA (by omega)) he.pe (pe_var hN hv hd hcd) (nomark _)) (test_weak (mono_neD he.mono) (neD_weak he.mono))⟩
end
/-! ### what a dict holds behind a store -/
def keysZ (kvs : List (Int × Int)) : List Int := kvs.map (·.1)
theorem getZ_nil (s : Int) : getZ [] s = none := rfl
theorem getZ_cons (p : Int × Int) (r : List (Int × Int)) (s : Int) : getZ (p :: r) s = if p.1 = s then some p.2 else getZ r s := by
  unfold getZ
  rw [List.find?_cons]
  by_cases h : p.1 = s
  · simp [h]
  · simp [h]
theorem getZ_none {kvs : List (Int × Int)} {s : Int} : getZ kvs s = none ↔ s ∉ keysZ kvs := by
  induction kvs with
  | nil => simp [getZ_nil, keysZ]
  | cons p r ih =>
    rw [getZ_cons]
    unfold keysZ at ih ⊢
    by_cases h : p.1 = s
    · simp [h]
    · rw [if_neg h, ih]
      simp only [List.map_cons, List.mem_cons, not_or]
      exact ⟨fun q => ⟨fun z => h z.symm, q⟩, fun q => q.2⟩
theorem getZ_app (a b : List (Int × Int)) (s : Int) : getZ (a ++ b) s = (getZ a s).or (getZ b s) := by
  induction a with
  | nil => rfl
  | cons p r ih =>
    rw [List.cons_append, getZ_cons, getZ_cons, ih]
    split <;> rfl
theorem any_keys (kvs : List (Int × Int)) (k : Int) : (kvs.any fun p => decide (p.1 = k)) = true ↔ k ∈ keysZ kvs := by
  unfold keysZ
  rw [List.any_eq_true]
  constructor
  · rintro ⟨p, hp, e⟩
    exact List.mem_map.mpr ⟨p, hp, by simpa using e⟩
  · intro h
    obtain ⟨p, hp, rfl⟩ := List.mem_map.mp h
    exact ⟨p, hp, by simp⟩
theorem getZ_put (kvs : List (Int × Int)) (k v s : Int) : getZ (putZ kvs k v) s = if s = k then some v else getZ kvs s := by
  unfold putZ
  split
  · rename_i h
    rw [any_keys] at h
    induction kvs with
    | nil => simp [keysZ] at h
    | cons p r ih =>
      rw [List.map_cons, getZ_cons, getZ_cons]
      by_cases e : p.1 = k
      · rw [if_pos e]
        by_cases z : s = k
        · subst z; simp [e]
        · have z2 : ¬ p.1 = s := fun q => z (q.symm.trans e)
          rw [if_neg z2, if_neg z2, if_neg z]
          by_cases m : k ∈ keysZ r
          · rw [ih m, if_neg z]
          · have : r.map (fun p => if p.1 = k then (p.1, v) else p) = r := by
              refine List.map_id''' r fun q hq => ?_
              rw [if_neg fun w => m (List.mem_map.mpr ⟨q, hq, w⟩)]
            rw [this]
      · rw [if_neg e]
        by_cases z : p.1 = s
        · have : ¬ s = k := fun q => e (z.trans q)
          rw [if_pos z, if_pos z, if_neg this]
        · rw [if_neg z, if_neg z]
          refine ih ?_
          unfold keysZ at h ⊢
          simp only [List.map_cons, List.mem_cons] at h
          exact h.resolve_left fun q => e q.symm
  · rename_i h
    have h : k ∉ keysZ kvs := fun q => h ((any_keys kvs k).mpr q)
    rw [getZ_app, getZ_cons, getZ_nil]
    by_cases z : s = k
    · subst z
      rw [getZ_none.mpr h]; simp
    · rw [if_neg z, if_neg fun q => z q.symm]
      cases getZ kvs s <;> rfl
where
  List.map_id''' {α : Type} {f : α → α} (l : List α) (h : ∀ x ∈ l, f x = x) : l.map f = l := by
    conv => rhs; rw [← List.map_id l]
    exact List.map_congr_left h
theorem keysZ_put (kvs : List (Int × Int)) (k v : Int) : keysZ (putZ kvs k v) = if k ∈ keysZ kvs then keysZ kvs else keysZ kvs ++ [k] := by
  unfold putZ
  by_cases h : k ∈ keysZ kvs
  · rw [if_pos ((any_keys kvs k).mpr h), if_pos h]
    unfold keysZ
    rw [List.map_map]
    refine List.map_congr_left fun p _ => ?_
    simp only [Function.comp]
    split <;> rfl
  · rw [if_neg fun q => h ((any_keys kvs k).mp q), if_neg h]
    simp [keysZ]
theorem putZ_nodup {kvs : List (Int × Int)} {k v : Int} (h : (keysZ kvs).Nodup) : (keysZ (putZ kvs k v)).Nodup := by
  rw [keysZ_put]
  split
  · exact h
  · rename_i n
    exact List.nodup_append.mpr ⟨h, by simp, fun a ha b hb e => by simp only [List.mem_singleton] at hb; subst hb; subst e; exact n ha⟩
theorem putZ_len (kvs : List (Int × Int)) (k v : Int) : (putZ kvs k v).length ≤ kvs.length + 1 := by
  unfold putZ; split <;> simp
theorem mem_put {kvs : List (Int × Int)} {k v s : Int} : s ∈ keysZ (putZ kvs k v) ↔ s = k ∨ s ∈ keysZ kvs := by
  rw [keysZ_put]
  split
  · rename_i h
    exact ⟨.inr, fun q => q.elim (fun e => e ▸ h) id⟩
  · simp [or_comm]
theorem getZ_mem {kvs : List (Int × Int)} {p : Int × Int} (nd : (keysZ kvs).Nodup) (hp : p ∈ kvs) : getZ kvs p.1 = some p.2 := by
  induction kvs with
  | nil => simp at hp
  | cons q r ih =>
    rw [getZ_cons]
    have nd' : (q.1 :: keysZ r).Nodup := nd
    obtain ⟨n1, n2⟩ := List.nodup_cons.mp nd'
    rcases List.mem_cons.mp hp with rfl | hp
    · rw [if_pos rfl]
    · rw [if_neg fun e => n1 (by rw [e]; exact List.mem_map.mpr ⟨p, hp, rfl⟩)]
      exact ih n2 hp
theorem mergeZ_self {kvs : List (Int × Int)} (nd : (keysZ kvs).Nodup) : mergeZ kvs = kvs := by
  have : ∀ (more acc : List (Int × Int)), (keysZ (acc ++ more)).Nodup → more.foldl (fun acc p => putZ acc p.1 p.2) acc = acc ++ more := by
    intro more
    induction more with
    | nil => intro acc _; simp
    | cons p r ih =>
      intro acc h
      rw [List.foldl_cons]
      have hn : p.1 ∉ keysZ acc := fun q => by
        unfold keysZ at h q
        rw [List.map_append, List.map_cons] at h
        exact (List.nodup_append.mp h).2.2 _ q _ (by simp) rfl
      have e : putZ acc p.1 p.2 = acc ++ [p] := by
        unfold putZ
        rw [if_neg fun q => hn ((any_keys acc p.1).mp q)]
      rw [e, ih _ (by simpa using h)]
      simp
  exact this kvs [] (by simpa using nd)
end DL

/-! if and for in a generator's body -/
namespace GnR
open PySem
open Sem (wp)
section
variable {M : Model} {A : Around} {R : GenEnd} {Y : Protocol} {n : Nat} {s₀ : Shared} {c : Code} {fs : List Frame} {s : Shared} {env : Env}
  {K : Flow → Sem Fin} {H : Value → Sem Fin} {gd : Bool → Bool} {lv : List Value → List Value}
theorem seg_If {test : Expr} {body orelse : List Stmt} {pos : Pos}
    (h : wpAny M (A.over c fs) (isTrue test env (eval test env)) (fun b s' => if b = true then Seg M A R Y n s₀ c ((execs body env).wrap K H gd lv) fs s' else Seg M A R Y n s₀ c ((execs orelse env).wrap K H gd lv) fs s')
      (fun x s' => Seg M A R Y n s₀ c (H x) fs s') s) :
    Seg M A R Y n s₀ c ((exec (.If test body orelse pos) env).wrap K H gd lv) fs s := by
  rw [exec_If]
  refine seg_at ?_
  show Seg M A R Y n s₀ c ((isTrue test env (eval test env) >>= fun b => if b = true then execs body env else execs orelse env).wrap K H gd lv) fs s
  rw [Sem.bind_eq_wrap', Sem.wrap_wrap]
  refine seg_wrap (wpAny_mono h (fun b s' hb => ?_) fun x s' hx => hx)
  cases b
  · exact hb
  · exact hb
/-- what a loop's call does with what comes back -/
abbrev backK (env : Env) (K : Flow → Sem Fin) (H : Value → Sem Fin) (gd : Bool → Bool) (lv : List Value → List Value) : Result → Sem Fin := fun r =>
  ((match r with | .ok f => (.pure f : Sem Flow) | .error e => .raise e).onRaise fun (x : Value) => do
        if (← field x 1) == Value.none then unsupported "frame.own-activation:exception-without-traceback"
        setFlight x env.frame).wrap K H gd lv
theorem seg_For {target iter : Expr} {body orelse : List Stmt} {pos : Pos}
    (h : wpAny M (A.over c fs) (eval iter env) (fun x s1 => wpAny M (A.over c fs) (pyIter x) (fun it s2 => ∀ p, Seg M A R Y n s₀ (.forLoop target it body orelse env) (M.den (.forLoop target it body orelse env)) (.ret (backK env K H gd lv) none (gd false) (lv []) c p [] :: fs) s2)
      (fun x s' => Seg M A R Y n s₀ c (H x) fs s') s1) (fun x s' => Seg M A R Y n s₀ c (H x) fs s') s)
    (hs : ∀ x, foldedSetIterable iter env x = pure x := by intro _; rfl) :
    Seg M A R Y n s₀ c ((exec (.For target iter body orelse pos) env).wrap K H gd lv) fs s := by
  rw [exec_For]
  refine seg_at ?_
  show Seg M A R Y n s₀ c ((eval iter env >>= fun v => foldedSetIterable iter env v >>= fun x => standAt iter.pos >>= fun _ => holding [x] (pyIter x) >>= fun it => runOwn (.forLoop target it body orelse env) env).wrap K H gd lv) fs s
  rw [Sem.bind_eq_wrap', Sem.wrap_wrap]
  refine seg_wrap (wpAny_mono h (fun v s1 h1 => ?_) fun x s' hx => hx)
  show Seg M A R Y n s₀ c ((foldedSetIterable iter env v >>= fun x => standAt iter.pos >>= fun _ => holding [x] (pyIter x) >>= fun it => runOwn (.forLoop target it body orelse env) env).wrap K H (fun g => gd g) (fun l => lv l)) fs s1
  rw [Sem.bind_eq_wrap', Sem.wrap_wrap]
  refine seg_wrap (wpAny_of_eq (hs v) ?_)
  show Seg M A R Y n s₀ c ((standAt iter.pos >>= fun _ => holding [v] (pyIter v) >>= fun it => runOwn (.forLoop target it body orelse env) env).wrap K H _ _) fs s1
  refine seg_at ?_
  show Seg M A R Y n s₀ c ((holding [v] (pyIter v) >>= fun it => runOwn (.forLoop target it body orelse env) env).wrap K H _ _) fs s1
  rw [Sem.bind_eq_wrap', Sem.wrap_wrap]
  refine seg_wrap (wpAny_holding (wpAny_mono h1 (fun it s2 h2 => ?_) fun x s' hx => hx))
  exact seg_call h2
end
section
variable {prog : Program} {w : World} {A : Around} {R : GenEnd} {Y : Protocol} {n : Nat} {s₀ : Shared} {fs : List Frame} {s : Shared} {env : Env}
/-- an exception leaves the loop's code -/
abbrev noted (env : Env) (x : Value) : Sem Fin := (do noteFrame x env; theTreesLotGoes x : Sem Unit).wrap (fun _ => .raise x) .raise id id
abbrev turnK (target : Expr) (it : Value) (body orelse : List Stmt) (env : Env) : Flow → Sem Fin := fun f => match f with
  | .next | .cont => .pure (.again (.forLoop target it body orelse env))
  | .brk => .pure (.done .next)
  | .ret v => .pure (.done (.ret v))
theorem seg_forLoop {target : Expr} {it : Value} {body : List Stmt}
    (h : wpAny (model prog w) (A.over (.forLoop target it body [] env) fs) (pyNext it) (fun r s1 => match r with
      | none => Seg (model prog w) A R Y n s₀ (.block [] env) ((model prog w).den (.block [] env)) fs s1
      | some v => wpAny (model prog w) (A.over (.forLoop target it body [] env) fs) (letOwnedTupleGo target it v) (fun _ s2 => wpAny (model prog w) (A.over (.forLoop target it body [] env) fs) (assign target env v) (fun _ s3 =>
          Seg (model prog w) A R Y n s₀ (.forLoop target it body [] env) ((execs body env).wrap (turnK target it body [] env) (noted env) id id) fs s3)
          (fun x s' => Seg (model prog w) A R Y n s₀ (.forLoop target it body [] env) (noted env x) fs s') s2)
          (fun x s' => Seg (model prog w) A R Y n s₀ (.forLoop target it body [] env) (noted env x) fs s') s1)
      (fun x s' => Seg (model prog w) A R Y n s₀ (.forLoop target it body [] env) (noted env x) fs s') s) :
    Seg (model prog w) A R Y n s₀ (.forLoop target it body [] env) ((model prog w).den (.forLoop target it body [] env)) fs s := by
  show Seg _ A R Y n s₀ _ ((forTurn target it body [] env).onRaise (fun x => do noteFrame x env; theTreesLotGoes x)) fs s
  unfold forTurn
  rw [Sem.onRaise_eq_wrap]
  refine seg_at ?_
  have ee : ∀ (x : Value) (s' : Shared), Seg (model prog w) A R Y n s₀ (.forLoop target it body [] env) (noted env x) fs s' →
      Seg (model prog w) A R Y n s₀ (.forLoop target it body [] env) ((do noteFrame x env; theTreesLotGoes x : Sem Unit).bind fun _ => .raise x) fs s' := fun x s' hx => by
    rw [Sem.bind_eq_wrap]; exact hx
  show Seg _ A R Y n s₀ _ (((pyNext it).onRaise (fun _ => standAt { target.pos with line := 0 }) >>= fun r => match r with
    | none => again (.block [] env)
    | some v => letOwnedTupleGo target it v >>= fun _ => assign target env v >>= fun _ => execs body env >>= fun f => match f with
      | .next | .cont => again (.forLoop target it body [] env)
      | .brk => pure (.done .next)
      | .ret v => pure (.done (.ret v))).wrap .pure (fun x => (do noteFrame x env; theTreesLotGoes x : Sem Unit).bind fun _ => .raise x) id id) fs s
  rw [Sem.bind_eq_wrap', Sem.wrap_wrap]
  refine seg_wrap (wpAny_onRaise (wpAny_mono h (fun r s1 h1 => ?_) fun x s' hx => wpAny_standAt (ee x s' hx)))
  cases r with
  | none =>
    exact seg_again rfl h1
  | some v =>
    show Seg _ A R Y n s₀ _ ((letOwnedTupleGo target it v >>= fun _ => assign target env v >>= fun _ => execs body env >>= fun f => match f with
      | .next | .cont => again (.forLoop target it body [] env)
      | .brk => pure (.done .next)
      | .ret v => pure (.done (.ret v))).wrap .pure (fun x => (do noteFrame x env; theTreesLotGoes x : Sem Unit).bind fun _ => .raise x) _ _) fs s1
    rw [Sem.bind_eq_wrap', Sem.wrap_wrap]
    refine seg_wrap (wpAny_mono h1 (fun _ s2 h2 => ?_) fun x s' hx => ee x s' hx)
    rw [Sem.bind_eq_wrap', Sem.wrap_wrap]
    refine seg_wrap (wpAny_mono h2 (fun _ s3 h3 => ?_) fun x s' hx => ee x s' hx)
    rw [Sem.bind_eq_wrap', Sem.wrap_wrap]
    rw [Sem.wrap_congr (execs body env) _ _ (K' := turnK target it body [] env) (H' := noted env) (fun f => by cases f <;> rfl) (fun e => by
      show (do noteFrame e env; theTreesLotGoes e : Sem Unit).bind (fun _ => .raise e) = _
      rw [Sem.bind_eq_wrap])]
    exact h3
end
section
variable {prog : Program} {w : World} {A : Around} {R : GenEnd} {Y : Protocol} {n : Nat} {s₀ : Shared} {c : Code} {fs : List Frame} {s : Shared} {env : Env}
/-- the loop's end -/
theorem seg_blockEnd {k : Result → Sem Fin} {g : Bool} {l kp : List Value} {p : Pos} (h : Seg (model prog w) A R Y n s₀ c (k (.ok .next)) fs s) :
    Seg (model prog w) A R Y n s₀ (.block [] env) ((model prog w).den (.block [] env)) (.ret k none g l c p kp :: fs) s := by
  have e : (model prog w).den (.block [] env) = leafOf (.ok .next) := rfl
  rw [e]
  exact seg_leaf (.ok .next) h
end
end GnR

/-! generators: the body, over plain data -/
namespace DL
open PySem PySem.Spec PyProof.Rows L2 GenW GnR
/-! ### the heap's beginning -/
def cutH (n : Nat) (h : Heap) : Heap := ⟨h.objs.extract 0 n, h.life⟩
theorem get_at {h : Heap} {b : Addr} : h.get? b = (match h.objs[b]? with | some ⟨_, _, .freed, _⟩ => none | o => o) := rfl
theorem cut_at {n : Nat} {h : Heap} {b : Addr} (hb : b < n) : (cutH n h).get? b = h.get? b := by
  rw [get_at, get_at]
  have : (cutH n h).objs[b]? = h.objs[b]? := by
    unfold cutH
    simp only [Array.getElem?_extract, Nat.zero_add]
    have hb' : b < n := hb
    rcases Nat.lt_or_ge b h.objs.size with q | q
    · rw [if_pos (show b < min n h.objs.size - 0 from by rw [Nat.sub_zero]; exact Nat.lt_min.mpr ⟨hb, q⟩)]
    · rw [if_neg (show ¬ b < min n h.objs.size - 0 from by rw [Nat.sub_zero]; exact fun z => absurd (Nat.lt_of_lt_of_le (Nat.lt_min.mp z).2 q) (Nat.lt_irrefl _)), Array.getElem?_eq_none q]
  rw [this]
theorem cut_size {n : Nat} {h : Heap} (hn : n ≤ h.objs.size) : (cutH n h).objs.size = n := by
  unfold cutH
  simp; omega
theorem cut_lt {n : Nat} {h : Heap} {b : Addr} {o : Obj} (e : (cutH n h).get? b = some o) : b < n := by
  have h1 : b < (h.objs.extract 0 n).size := Heap.lt_size e
  rw [Array.size_extract] at h1
  have h2 : b < min n h.objs.size - 0 := h1
  rw [Nat.sub_zero] at h2
  exact (Nat.lt_min.mp h2).1
theorem cut_get {n : Nat} {h : Heap} {b : Addr} {o : Obj} (e : (cutH n h).get? b = some o) : b < n ∧ h.get? b = some o :=
  ⟨cut_lt e, (cut_at (cut_lt e)).symm.trans e⟩
theorem get_cut {n : Nat} {h : Heap} {b : Addr} {o : Obj} (hb : b < n) (e : h.get? b = some o) : (cutH n h).get? b = some o := (cut_at hb).trans e
abbrev cutS (n : Nat) (s : Shared) : Shared := { s with heap := cutH n s.heap }
theorem cut_frames {n : Nat} {h base : Heap} : ∀ {l : List PySem.Env}, (∀ b ∈ frs l, b < n) → h.FunFrames base l → (cutH n h).FunFrames base l
  | [], _, _ => trivial
  | env :: r, hb, hl => by
    obtain ⟨hk, ⟨L, o, hf, hn, ho, hd⟩, hr⟩ := hl
    refine ⟨hk, ⟨L, o, hf, hn, get_cut (hb L ?_) ho, hd⟩, cut_frames (fun b z => hb b ?_) hr⟩
    · unfold frs; rw [List.filterMap_cons, hf]; exact List.mem_cons_self
    · unfold frs; rw [List.filterMap_cons, hf]; exact List.mem_cons_of_mem _ z
def nOwn (ρ : DEnv) : Prop := match ρ with
  | [] => True
  | .own _ :: _ => False
  | _ :: r => nOwn r
theorem nOwn_at : ∀ {ρ : DEnv} {i : Nat} {o : Own}, nOwn ρ → ρ[i]? ≠ some (.own o)
  | [], i, o, _, h => by simp at h
  | s :: r, 0, o, h, e => by
    simp at e; subst e; exact h
  | s :: r, i + 1, o, h, e => by
    simp at e
    refine nOwn_at (ρ := r) (i := i) (o := o) ?_ e
    cases s <;> first | exact h | exact h.elim

section
variable {P : Program} {w : World} {K : PySem.W.Frag} {mg : Str → Option Value} {base : Heap} {N : List Str} {qual : Str} {scope : Scope} {f : Addr} {cd : Value} {A : Around} {outer : List PySem.Env} {n : Nat}
/-- the context of a generator's body, since it was woken last -/
abbrev gxC (P : Program) (w : World) (K : PySem.W.Frag) (mg : Str → Option Value) (base : Heap) (N : List Str) (qual : Str) (scope : Scope) (f : Addr) (cd : Value) (A : Around) (outer : List PySem.Env) (n : Nat) (s0 : Shared) (H0 : Hp) : Cx where
  prog := P
  w := w
  K := K
  mg := mg
  base := base
  A := A.deeper (envOfC qual scope n f cd)
  N := N
  s_0 := s0
  H_0 := H0
  env := envOfC qual scope n f cd
  outer := outer
  stack := envOfC qual scope n f cd :: outer
  ex := []
  calm := true
  fn := fun _ => true
  pn := []
  xe := fun _ _ => False
/-- what the waker gives -/
structure Woke (P : Program) (w : World) (K : PySem.W.Frag) (mg : Str → Option Value) (base : Heap) (A : Around) (outer : List PySem.Env) (n : Nat) (gm : List Addr) (gp : List (Addr × Obj)) (s : Shared) (H Hs : Hp) : Prop where
  e0 : Env0 P w K mg base A outer s H
  lt : n ≤ s.heap.objs.size
  bn : base.objs.size ≤ n
  frn : ∀ b ∈ frs outer, b < n
  pin : ∀ p ∈ gp, s.heap.get? p.1 = some p.2 ∧ H p.1 = none
  gm : ∀ b ∈ gm, n < b ∧ H b = none ∧ ∃ o, s.heap.get? b = some o ∧ ∀ v, o.data ≠ .cell v
  sub : Same Hs H
/-- what has run since -/
structure Ran (P : Program) (w : World) (outer : List PySem.Env) (n : Nat) (gm : List Addr) (sw : Shared) (Hw Hsw : Hp) (s : Shared) (H Hs : Hp) : Prop where
  os : s.os = sw.os
  bare : AllBare s.gens
  nol : s.heap.NoLimit
  un : Un (frs outer) [] Hw H (cutH n sw.heap) s.heap
  hok : HOk P w H s.heap
  gm : ∀ b ∈ gm, H b = none ∧ ∀ o, sw.heap.get? b = some o → s.heap.get? b = some o
  lt : n ≤ s.heap.objs.size
  sub : Same Hs H
  base : Same Hsw Hs
  fix : ∀ p, Hw p ≠ none → Hs p = Hsw p
  old : ∀ p o, Hw p = some o → H p = some o
/-- a scope of plain locals -/
structure Plain (scope : Scope) : Prop where
  kind : scope.kind = .function
  co : scope.isCoroutine = false
  nocell : ∀ x, scope.names.lookup x ≠ some .cell ∧ scope.names.lookup x ≠ some .free
  cells : ∀ k, cellsFrom k scope.names [] = []

theorem plain_cells (S : Plain scope) {x : Str} {c : Addr} : (envOfC qual scope n f cd).cells.lookup x ≠ some c := by
  show (cellsFrom _ scope.names []).lookup x ≠ _
  rw [S.cells]
  exact fun h => by simp at h
theorem gx_ok (S : Plain scope) (hd : A.handled = none) {gm : List Addr} {gp : List (Addr × Obj)} {s : Shared} {H Hs : Hp} (W : Woke P w K mg base A outer n gm gp s H Hs) : (gxC P w K mg base N qual scope f cd A outer n (cutS n s) H).Ok := by
  have noA : ∀ b : Addr, b ∉ ([] : List Addr) := fun b z => by simp at z
  refine ⟨W.e0.mod, S.kind, rfl, rfl, Nat.le_of_eq (cut_size W.lt), fun y z c h1 h2 => absurd h1 (plain_cells S), fun y hy => ?_, fun y c _ h => absurd h (plain_cells S), fun _ => hd, Around.frames_deeper W.e0.frames, .inr ⟨rfl, rfl⟩, fun b z => absurd z (noA b), fun b o e => ?_, ?_, fun b _ _ => noA b, fun b z => absurd z (noA b), ?_, W.e0.frf⟩
  · rcases hy with hy | hy
    · exact absurd hy (S.nocell y).1
    · exact absurd hy (S.nocell y).2
  · exact ⟨get_cut (Nat.lt_of_lt_of_le (Heap.lt_size e) W.bn) (W.e0.bs b o e).1, (W.e0.bs b o e).2⟩
  · exact Nat.le_trans W.bn (Nat.le_of_eq (cut_size W.lt).symm)
  · exact cut_frames W.frn W.e0.funs
/-- woken: the invariant stands on the new ground -/
theorem gx_at (S : Plain scope) (hd : A.handled = none) {gm : List Addr} {ip : List (Addr × Obj)} {σ : L2.St} {o : Obj} {m : Str → Option Value} {s' : Shared} {H' Hs' : Hp} (W : Woke P w K mg base A outer n gm ((n, o) :: ip) s' H' Hs')
    (hn : ∃ es ep, o.data = .dict es ep ∧ ∀ h : Heap, h.get? n = some o → h.Ns n m) (hl : ∀ (i : Nat) (x : Str) (v : V), N[i]? = some x → σ[i]? = some (some v) → Vis scope x → ∃ u, RelV v u ∧ scope.names.lookup x = some .local ∧ m x = some u) (len : σ.length = N.length)
    (hip : ∀ p ∈ ip, p.1 ≠ n ∧ p.1 ∉ frs outer ∧ ∀ v, p.2.data ≠ .cell v) : Inv (gxC P w K mg base N qual scope f cd A outer n (cutS n s') H') (pinsAt gm s'.heap ++ ip) σ H' s' := by
  obtain ⟨es, ep, _, hns⟩ := hn
  refine ⟨gx_ok S hd W, rfl, W.e0.bare, Un.kept fun b u e => (cut_get e).2, ⟨m, hns _ (W.pin (n, o) List.mem_cons_self).1, fun i x v e1 e2 e3 => ?_⟩, fun x c e => absurd e (plain_cells S), (W.pin (n, o) List.mem_cons_self).2, fun x c e => absurd e (plain_cells S), fun p hp => ?_, W.e0.hok, len⟩
  · obtain ⟨u, r, l1, l2⟩ := hl i x v e1 e2 e3
    exact ⟨u, r, .inl ⟨l1, l2⟩⟩
  · have hp' : p ∈ pinsAt gm s'.heap ++ ip := hp
    rcases List.mem_append.mp hp' with z | z
    · obtain ⟨z1, z2⟩ := of_pinsAt z
      obtain ⟨q1, q2, o', q3, q4⟩ := W.gm p.1 z1
      rw [z2] at q3; cases q3
      exact ⟨z2, q2, Nat.ne_of_gt q1, fun hb => absurd (Nat.lt_trans q1 (W.frn _ hb)) (Nat.lt_irrefl _), q4⟩
    · obtain ⟨q3, q4, q5⟩ := hip p z
      obtain ⟨q1, q2⟩ := W.pin p (List.mem_cons_of_mem _ z)
      exact ⟨q1, q2, q3, q4, q5⟩
theorem gx_wake (S : Plain scope) (hd : A.handled = none) {s0 : Shared} {H0 : Hp} {gm : List Addr} {ip pl : List (Addr × Obj)} {σ : L2.St} {H : Hp} {s : Shared} {o : Obj} (I : Inv (gxC P w K mg base N qual scope f cd A outer n s0 H0) (pl ++ ip) σ H s) (ho : s.heap.get? n = some o)
    {s' : Shared} {H' Hs' : Hp} (W : Woke P w K mg base A outer n gm ((n, o) :: ip) s' H' Hs') : Inv (gxC P w K mg base N qual scope f cd A outer n (cutS n s') H') (pinsAt gm s'.heap ++ ip) σ H' s' := by
  obtain ⟨m, ⟨o1, es, ep, h1, h2, r1⟩, hl⟩ := I.loc
  have h1' : s.heap.get? n = some o1 := h1
  rw [ho] at h1'; cases h1'
  refine gx_at S hd W (m := m) ⟨es, ep, h2, fun h e => ⟨o, es, ep, e, h2, r1⟩⟩ (fun i x v e1 e2 e3 => ?_) I.len fun p hp => ?_
  · obtain ⟨u, r, l⟩ := hl i x v e1 e2 e3
    rcases l with ⟨l1, l2⟩ | ⟨_, c, e, _⟩
    · exact ⟨u, r, l1, l2⟩
    · exact absurd e (plain_cells S)
  · obtain ⟨_, _, q3, q4, q5⟩ := I.pin p (List.mem_append_right _ (List.mem_append_right _ hp))
    exact ⟨q3, q4, q5⟩
theorem DRel.wake {ρ : DEnv} {k : Nat} {σ : SV} {Hs H Hs' H' Hw Hsw : Hp} (D : DRel ⟨none, Hw, Hsw⟩ ρ k σ Hs H) (no : nOwn ρ) (s : Same Hs Hs') (sub : Same Hs' H') : DRel ⟨none, H', Hs'⟩ ρ 0 σ Hs' H' := by
  refine ⟨sub, fun _ _ h => h, fun _ _ => rfl, fun _ _ _ h => h, fun b h => (nomatch h), D.len, fun i => ?_, fun i j o o' a h => absurd h (nOwn_at no)⟩
  have h := D.slot i
  unfold SlotOk at h ⊢
  split
  · rename_i d e
    rw [e] at h
    obtain ⟨x, h1, h2⟩ := h
    exact ⟨x, h1, dp_mono s h2⟩
  · rename_i o e
    exact absurd e (nOwn_at no)
  · rename_i x e
    rw [e] at h
    exact h
  · rename_i e
    rw [e] at h
    obtain ⟨b, h1, _⟩ := h
    cases h1
  · trivial
theorem DRel.any {ρ : DEnv} {k k' : Nat} {σ : SV} {Hs H Hw Hsw : Hp} (D : DRel ⟨none, Hw, Hsw⟩ ρ k σ Hs H) : DRel ⟨none, Hw, Hsw⟩ ρ k' σ Hs H :=
  ⟨D.sub, D.base, D.fix, D.old, fun b h => (nomatch h), D.len, D.slot, D.dist⟩
end

/-- the consumer's own facts: what is out, the state at the waking, the abstract heap, its shared part -/
abbrev CEV := List PyData → Shared → Hp → Hp → Prop
section
variable (P : Program) (w : World) (K : PySem.W.Frag) (mg : Str → Option Value) (base : Heap) (A : Around) (outer : List PySem.Env) (n : Nat) (gm : List Addr) (C : CEV) (Q : List PyData → Prop)
def GYd : Protocol := fun m s₀ v s kap => ∃ ys d x Hw Hsw H Hs gp, C ys s₀ Hw Hsw ∧ Ran P w outer n gm s₀ Hw Hsw s H Hs ∧ RelV x v ∧ Dq Hs x d ∧ m + 1 + ys.length = sizeLine ∧
  (∀ p ∈ gp, s.heap.get? p.1 = some p.2 ∧ H p.1 = none ∧ n ≤ p.1 ∧ p.1 ∉ gm) ∧
  ∀ s' H' Hs', Woke P w K mg base A outer n gm gp s' H' Hs' → Same Hs Hs' → C (ys ++ [d]) s' H' Hs' → kap (.send .none) s'
def GFd (m : Nat) (s₀ s : Shared) : Prop := ∃ ys Hw Hsw H Hs, C ys s₀ Hw Hsw ∧ Ran P w outer n gm s₀ Hw Hsw s H Hs ∧ m + ys.length = sizeLine ∧ Q ys
def GRd : GenEnd := fun m s₀ r s => ((r = .ok (.ret .none) ∨ r = .ok .next) ∧ GFd P w outer n gm C Q m s₀ s) ∨ ∃ e, r = .error e ∧ False
end
structure GEndsD where
  nx : List PyData → DEnv → Prop
  bk : List PyData → DEnv → Prop
  ct : List PyData → DEnv → Prop
abbrev TGS := GEndsD → List PyData → DEnv → Prop

/-- a generator's place: all that is fixed while it lives -/
structure GPl where
  P : Program
  w : World
  K : PySem.W.Frag
  mg : Str → Option Value
  base : Heap
  N : List Str
  qual : Str
  scope : Scope
  f : Addr
  cd : Value
  A : Around
  outer : List PySem.Env
  n : Nat
  gm : List Addr
  C : CEV
  Q : List PyData → Prop
abbrev GPl.x (G : GPl) (s0 : Shared) (H0 : Hp) : Cx := gxC G.P G.w G.K G.mg G.base G.N G.qual G.scope G.f G.cd G.A G.outer G.n s0 H0
abbrev GPl.env (G : GPl) : PySem.Env := envOfC G.qual G.scope G.n G.f G.cd
abbrev GPl.sg (G : GPl) (m : Nat) (s₀ : Shared) (c : Code) (t : Sem PySem.Fin) (fs : List Frame) (s : Shared) : Prop :=
  Seg (model G.P G.w) G.A (GRd G.P G.w G.outer G.n G.gm G.C G.Q) (GYd G.P G.w G.K G.mg G.base G.A G.outer G.n G.gm G.C) m s₀ c t fs s
/-- where it was woken -/
structure GWk (G : GPl) (s₀ : Shared) : Prop where
  le : G.n ≤ s₀.heap.objs.size
  gm : ∀ b ∈ G.gm, G.n < b ∧ ∃ o, s₀.heap.get? b = some o
abbrev GPl.pl (G : GPl) (s₀ : Shared) : List (Addr × Obj) := pinsAt G.gm s₀.heap
theorem Woke.wk {G : GPl} {gp : List (Addr × Obj)} {s : Shared} {H Hs : Hp} (W : Woke G.P G.w G.K G.mg G.base G.A G.outer G.n G.gm gp s H Hs) : GWk G s :=
  ⟨W.lt, fun b hb => let ⟨q1, _, o, q2, _⟩ := W.gm b hb; ⟨q1, o, q2⟩⟩
/-- it runs -/
def GRun (G : GPl) (B : Hp) (ys : List PyData) (s₀ : Shared) (ip : List (Addr × Obj)) (ρ : DEnv) (s : Shared) : Prop :=
  ∃ σ H Hw Hsw Hs, G.C ys s₀ Hw Hsw ∧ GWk G s₀ ∧ Inv (G.x (cutS G.n s₀) Hw) (G.pl s₀ ++ ip) σ H s ∧ DRel ⟨none, Hw, Hsw⟩ ρ 0 σ Hs H ∧ Same B Hs
def GPd (G : GPl) (B : Hp) (ip : List (Addr × Obj)) (D : GEndsD) (ys : List PyData) (fl : Flow) (s₀ s : Shared) : Prop := match fl with
  | .next => ∃ ρ, GRun G B ys s₀ ip ρ s ∧ D.nx ys ρ
  | .brk => ∃ ρ, GRun G B ys s₀ ip ρ s ∧ D.bk ys ρ
  | .cont => ∃ ρ, GRun G B ys s₀ ip ρ s ∧ D.ct ys ρ
  | .ret _ => False
structure GCd (G : GPl) (c : Code) (fs : List Frame) (gd : Bool → Bool) : Prop where
  pl : Plain G.scope
  hd : G.A.handled = none
  over : G.A.over c fs = G.A.deeper G.env
  split : splitAtGen fs = none
  guard : fs.any Frame.guarded = false
  gd : gd false = false
structure GKd (G : GPl) (B : Hp) (ip : List (Addr × Obj)) (c : Code) (fs : List Frame) (Kf : Flow → Sem PySem.Fin) (D : GEndsD) : Prop where
  ok : ∀ (m : Nat) (ys : List PyData) (s₀ s : Shared) (fl : Flow), m + ys.length = sizeLine → GPd G B ip D ys fl s₀ s → G.sg m s₀ c (Kf fl) fs s
structure GD (G : GPl) (st : Stmt) (t : TGS) : Prop where
  run : ∀ (B : Hp) (ip : List (Addr × Obj)) (m : Nat) (ys : List PyData) (s₀ : Shared) (c : Code) (fs : List Frame) (Kf : Flow → Sem PySem.Fin) (J : Value → Sem PySem.Fin) (gd : Bool → Bool) (lv : List Value → List Value) (s : Shared) (ρ : DEnv) (D : GEndsD),
    (∀ p ∈ ip, G.n ≤ p.1 ∧ p.1 ∉ G.gm) → GCd G c fs gd → m + ys.length = sizeLine → GKd G B ip c fs Kf D → GRun G B ys s₀ ip ρ s → t D ys ρ → G.sg m s₀ c ((exec st G.env).wrap Kf J gd lv) fs s
structure GDs (G : GPl) (st : List Stmt) (t : TGS) : Prop where
  run : ∀ (B : Hp) (ip : List (Addr × Obj)) (m : Nat) (ys : List PyData) (s₀ : Shared) (c : Code) (fs : List Frame) (Kf : Flow → Sem PySem.Fin) (J : Value → Sem PySem.Fin) (gd : Bool → Bool) (lv : List Value → List Value) (s : Shared) (ρ : DEnv) (D : GEndsD),
    (∀ p ∈ ip, G.n ≤ p.1 ∧ p.1 ∉ G.gm) → GCd G c fs gd → m + ys.length = sizeLine → GKd G B ip c fs Kf D → GRun G B ys s₀ ip ρ s → t D ys ρ → G.sg m s₀ c ((execs st G.env).wrap Kf J gd lv) fs s

section
variable {G : GPl} {st : Stmt} {rest : List Stmt}
def gPl (t : TSD) : TGS := fun D ys ρ => t { nx := fun ρ' _ => D.nx ys ρ', rt := fun _ _ => False, bk := fun ρ' _ => D.bk ys ρ', ct := fun ρ' _ => D.ct ys ρ' } ρ 0
theorem gd_plain {t : TSD} (hf : ∀ s0 H0, FS (G.x s0 H0) st t) : GD G st (gPl t) := by
  refine ⟨fun B ip m ys s₀ c fs Kf J gd lv s ρ D hp g hm k hI ht => ?_⟩
  obtain ⟨σ, H, Hw, Hsw, Hs, hC, hn, I, d, sB⟩ := hI
  refine seg_wrap ?_
  rw [g.over]
  have back : ∀ (s' : Shared) (nx : List PyData → DEnv → Prop), (∃ σ' H', Inv (G.x (cutS G.n s₀) Hw) (G.pl s₀ ++ ip) σ' H' s' ∧ ∃ ρ' k' Hs', DRel ⟨none, Hw, Hsw⟩ ρ' k' σ' Hs' H' ∧ Same Hs Hs' ∧ nx ys ρ') → ∃ ρ', GRun G B ys s₀ ip ρ' s' ∧ nx ys ρ' := fun s' nx ⟨σ', H', I', ρ', k', Hs', d', sh, q⟩ =>
    ⟨ρ', ⟨σ', H', Hw, Hsw, Hs', hC, hn, I', d'.any, sB.trans sh⟩, q⟩
  refine wpAny_mono ((hf (cutS G.n s₀) Hw).ps.run (G.pl s₀ ++ ip) s σ H { nx := fun σ' H' => ∃ ρ' k' Hs', DRel ⟨none, Hw, Hsw⟩ ρ' k' σ' Hs' H' ∧ Same Hs Hs' ∧ D.nx ys ρ', rt := fun _ _ => False, bk := fun σ' H' => ∃ ρ' k' Hs', DRel ⟨none, Hw, Hsw⟩ ρ' k' σ' Hs' H' ∧ Same Hs Hs' ∧ D.bk ys ρ', ct := fun σ' H' => ∃ ρ' k' Hs', DRel ⟨none, Hw, Hsw⟩ ρ' k' σ' Hs' H' ∧ Same Hs Hs' ∧ D.ct ys ρ' } I
    ⟨_, ρ, 0, Hs, d, (hf (cutS G.n s₀) Hw).mono { nx := fun ρ' _ => D.nx ys ρ', rt := fun _ _ => False, bk := fun ρ' _ => D.bk ys ρ', ct := fun ρ' _ => D.ct ys ρ' } _ _ _ ⟨fun ρ' n' h σ' Hs' H' d' s' => ⟨ρ', n', Hs', d', s', h⟩, fun _ _ h => h.elim, fun ρ' n' h σ' Hs' H' d' s' => ⟨ρ', n', Hs', d', s', h⟩, fun ρ' n' h σ' Hs' H' d' s' => ⟨ρ', n', Hs', d', s', h⟩⟩ ht⟩)
    (fun fl s' hs => k.ok m ys s₀ s' fl hm ?_) fun x s' hx => hx.elim
  cases fl with
  | next => obtain ⟨σ', H', I', q⟩ := hs; exact back s' D.nx ⟨σ', H', I', q⟩
  | brk => obtain ⟨σ', H', I', q⟩ := hs; exact back s' D.bk ⟨σ', H', I', q⟩
  | cont => obtain ⟨σ', H', I', q⟩ := hs; exact back s' D.ct ⟨σ', H', I', q⟩
  | ret u => obtain ⟨_, _, _, _, _, q⟩ := hs; exact q.elim
def g0 : TGS := fun D ys ρ => D.nx ys ρ
theorem gds_nil : GDs G [] g0 := ⟨fun B ip m ys s₀ c fs Kf J gd lv s ρ D hp g hm k hI ht => seg_execs_nil (k.ok m ys s₀ s .next hm ⟨ρ, hI, ht⟩)⟩
def gThen (t u : TGS) : TGS := fun D ys ρ => t { D with nx := fun ys' ρ' => u D ys' ρ' } ys ρ
theorem gds_cons {t u : TGS} (a : GD G st t) (b : GDs G rest u) : GDs G (st :: rest) (gThen t u) := by
  refine ⟨fun B ip m ys s₀ c fs Kf J gd lv s ρ D hp g hm k hI ht => ?_⟩
  refine seg_execs_cons ?_
  refine a.run B ip m ys s₀ c fs _ J gd lv s ρ { D with nx := fun ys' ρ' => u D ys' ρ' } hp g hm ⟨fun m' ys' s₀' s' fl hm' hs => ?_⟩ hI ht
  cases fl with
  | next =>
    obtain ⟨ρ', I', q⟩ := hs
    exact b.run B ip m' ys' s₀' c fs Kf J gd lv s' ρ' D hp g hm' k I' q
  | brk => exact k.ok m' ys' s₀' s' .brk hm' hs
  | cont => exact k.ok m' ys' s₀' s' .cont hm' hs
  | ret u => exact k.ok m' ys' s₀' s' (.ret u) hm' hs
def gIf (tc : TTD) (t u : TGS) : TGS := fun D ys ρ => tc ρ 0 fun b ρ' _ => if b = true then t D ys ρ' else u D ys ρ'
theorem gd_if {e : Expr} {a b : List Stmt} {pos : Pos} {tc : TTD} {t u : TGS} (h : ∀ s0 H0, FT (G.x s0 H0) e tc) (ha : GDs G a t) (hb : GDs G b u) : GD G (.If e a b pos) (gIf tc t u) := by
  refine ⟨fun B ip m ys s₀ c fs Kf J gd lv s ρ D hp g hm k hI ht => ?_⟩
  obtain ⟨σ, H, Hw, Hsw, Hs, hC, hn, I, d, sB⟩ := hI
  refine seg_If ?_
  rw [g.over]
  refine wpAny_mono ((h (cutS G.n s₀) Hw).pt.run (G.pl s₀ ++ ip) s σ H (fun b H' => ∃ ρ' k' Hs', DRel ⟨none, Hw, Hsw⟩ ρ' k' σ Hs' H' ∧ Same Hs Hs' ∧ (if b = true then t D ys ρ' else u D ys ρ')) I
    ⟨_, ρ, 0, Hs, d, (h (cutS G.n s₀) Hw).mono _ _ _ _ (fun b ρ' n' q Hs' H' d' E' => ⟨ρ', n', Hs', d', E'.sh, q⟩) ht⟩) (fun bb s' hs => ?_) fun x s' hx => hx.elim
  obtain ⟨H', I', ρ', k', Hs', d', sh, q⟩ := hs
  have R' : GRun G B ys s₀ ip ρ' s' := ⟨σ, H', Hw, Hsw, Hs', hC, hn, I', d'.any, sB.trans sh⟩
  cases bb with
  | true =>
    rw [if_pos rfl] at q ⊢
    exact ha.run B ip m ys s₀ c fs Kf J gd lv s' ρ' D hp g hm k R' q
  | false =>
    rw [if_neg Bool.false_ne_true] at q ⊢
    exact hb.run B ip m ys s₀ c fs Kf J gd lv s' ρ' D hp g hm k R' q
/-- yield e -/
def gYield (te : TD) : TGS := fun D ys ρ => ys.length < sizeLine ∧ te ρ 0 fun r ρ' _ => match r with
  | .dat d => nOwn ρ' ∧ D.nx (ys ++ [d]) ρ'
  | _ => False
theorem gd_yield {e : Expr} {yp pos : Pos} {te : TD} (h : ∀ s0 H0, FE (G.x s0 H0) e te) (hi : interactive G.env = false := by rfl) : GD G (.Expr (.Yield (some e) yp) pos) (gYield te) := by
  refine ⟨fun B ip m ys s₀ c fs Kf J gd lv s ρ D hp g hm k hI ht => ?_⟩
  obtain ⟨σ, H, Hw, Hsw, Hs, hC, hn, I, d, sB⟩ := hI
  have run := fun Q hq => (h (cutS G.n s₀) Hw).pe.run (G.pl s₀ ++ ip) s σ H Q I hq
  obtain ⟨hlt, ht⟩ := ht
  obtain ⟨m, rfl⟩ : ∃ m', m = m' + 1 := ⟨m - 1, by omega⟩
  refine seg_Expr_Yield g.split g.gd g.guard ?_ g.pl.co hi
  rw [g.over]
  refine wpAny_mono (run (fun x H' => ∃ ρ' k' Hs' d0, DRel ⟨none, Hw, Hsw⟩ ρ' k' σ Hs' H' ∧ Same Hs Hs' ∧ Dq Hs' x d0 ∧ nOwn ρ' ∧ D.nx (ys ++ [d0]) ρ')
    ⟨_, ρ, 0, Hs, d, (h (cutS G.n s₀) Hw).mono _ _ _ _ (fun r ρ' n' q v Hs' H' d' R' E' fr => ?_) ht⟩) (fun v s' hv => ?_) fun x s' hx => hx.elim
  · cases r with
    | dat d0 => exact ⟨ρ', n', Hs', d0, d', E'.sh, R', q.1, q.2⟩
    | _ => exact q.elim
  obtain ⟨x, H1, I1, rv, ρ', k', Hs', d0, d1, sh, hx, no, q⟩ := hv
  intro kap hk
  obtain ⟨mm, ⟨o, es, ep, ho, r1⟩, _⟩ := id I1.loc
  have ho' : s'.heap.get? G.n = some o := ho
  refine ⟨ys, d0, x, Hw, Hsw, H1, Hs', (G.n, o) :: ip, hC, ⟨I1.os, I1.bare, I1.nolimit, I1.base, I1.hok, fun b z => ?_, Nat.le_of_lt I1.lt, d1.sub, d1.base, d1.fix, fun p o h => d1.old p o (fun z => by cases z) h⟩, rv, hx, hm, fun p z => ?_, fun s'' H'' Hs'' W S2 hC'' => hk .none s'' ?_⟩
  · obtain ⟨_, o', e⟩ := hn.gm b z
    obtain ⟨q1, q2, _⟩ := I1.pin (b, o') (List.mem_append_right _ (List.mem_append_left _ (mem_pinsAt z e)))
    exact ⟨q2, fun o'' e'' => by rw [e] at e''; cases e''; exact q1⟩
  · rcases List.mem_cons.mp z with z | z
    · subst z
      exact ⟨ho', I1.free, Nat.le_refl _, fun z => absurd (hn.gm _ z).1 (Nat.lt_irrefl _)⟩
    · obtain ⟨q1, q2, _⟩ := I1.pin p (List.mem_append_right _ (List.mem_append_right _ z))
      exact ⟨q1, q2, hp p z⟩
  · refine k.ok m (ys ++ [d0]) s'' s'' .next (by rw [List.length_append, List.length_singleton]; omega) ⟨ρ', ⟨σ, H'', H'', Hs'', Hs'', hC'', W.wk, gx_wake g.pl g.hd I1 ho' W, d1.wake no S2 W.sub, sB.trans (sh.trans S2)⟩, q⟩

/-! ### for -/
theorem _root_.L2.Inv.unA {X : Cx} {pl ip ql : List (Addr × Obj)} {σ : L2.St} {H : Hp} {s : Shared} (I : Inv X (pl ++ (ip ++ ql)) σ H s) : Inv X (pl ++ ip) σ H s := I.pins_of fun p hp => I.pin p (List.mem_append_right _ ((List.mem_append.mp hp).elim (fun z => List.mem_append_left _ z) fun z => List.mem_append_right _ (List.mem_append_left _ z)))
def gForGo (g : TGD) (tb : TGS) (D : GEndsD) : List PyData → List PyData → DEnv → Prop
  | [], ys, ρ => D.nx ys ρ
  | d :: r, ys, ρ => g d ρ fun ρ' => tb { nx := fun ys' ρ'' => gForGo g tb D r ys' ρ'', bk := D.nx, ct := fun ys' ρ'' => gForGo g tb D r ys' ρ'' } ys ρ'
def gFor (fi : TID) (g : TGD) (tb : TGS) : TGS := fun D ys ρ => fi ρ 0 fun ds ρ' _ => gForGo g tb D ds ys ρ'
theorem gd_for {tg iter : Expr} {body : List Stmt} {pos : Pos} {wf : Bool} {fi : TID} {gt : TGD} {ws : List Nat} {tb : TGS} (hi : ∀ s0 H0, FI false wf (G.x s0 H0) tg iter fi) (ht : ∀ s0 H0, FG wf (G.x s0 H0) tg gt ws) (hb : GDs G body tb)
    (hs : ∀ x, foldedSetIterable iter G.env x = pure x := by intro _; rfl) : GD G (.For tg iter body [] pos) (gFor fi gt tb) := by
  refine ⟨fun B ip m ys s₀ c fs Kf J gd lv s ρ D hp g hm k hI hq => ?_⟩
  obtain ⟨σ, H, Hw, Hsw, Hs, hC, hn, I, d, sB⟩ := hI
  refine seg_For ?_ hs
  rw [g.over]
  refine wpAny_mono ((hi (cutS G.n s₀) Hw).pi.run (G.pl s₀ ++ ip) s σ H (fun J H' => ∃ ds ρ' Hs', DRel ⟨none, Hw, Hsw⟩ ρ' 0 σ Hs' H' ∧ Same Hs Hs' ∧ WalkD false wf ⟨none, Hw, Hsw⟩ J ds Hs' H' ∧ gForGo gt tb D ds ys ρ') I
    ⟨_, ρ, 0, Hs, d, (hi (cutS G.n s₀) Hw).mono _ _ _ _ (fun ds ρ' n' q J Hs' H' d' E' wk => ⟨ds, ρ', Hs', d'.any, E'.sh, wk, q⟩) hq⟩) (fun v s1 h1 => ?_) fun x s' hx => hx.elim
  refine wpAny_mono h1 (fun itv s2 h2 p => ?_) fun x s' hx => hx.elim
  obtain ⟨it, fp, tn, Jt, H2, rfl, I2, T, st2, f2, ds, ρ2, Hs2, d2, sh2, wk, hq⟩ := h2
  have ov : ∀ (kk : Result → Sem PySem.Fin), G.A.over (.forLoop tg (.ref it) body [] G.env) (.ret kk none (gd false) (lv []) c p [] :: fs) = G.A.deeper G.env := fun kk => (over_loop rfl rfl).trans g.over
  have gl : GCd G (.forLoop tg (.ref it) body [] G.env) (.ret (backK G.env Kf J gd lv) none (gd false) (lv []) c p [] :: fs) id := ⟨g.pl, g.hd, ov _, by
    show (splitAtGen fs).map _ = none
    rw [g.split]; rfl, by
    show (gd false || fs.any Frame.guarded) = false
    rw [g.gd, g.guard]; rfl, rfl⟩
  -- what stays true of the iterator's objects
  have cut0 : (cutS G.n s₀).heap.objs.size = G.n := cut_size hn.le
  have fst : ∀ b ∈ fp, b ≠ G.n ∧ b ∉ frs G.outer ∧ G.n ≤ b ∧ (∀ q ∈ ip, q.1 ≠ b) ∧ b ∉ G.gm := fun b hb => by
    obtain ⟨_, q2, q3, q4, _, q6⟩ := f2 b hb
    refine ⟨q2, q3, ?_, fun q hq => q6 q (List.mem_append_right _ (List.mem_append_right _ hq)), fun z => ?_⟩
    · rcases q4 with z | z
      · simp at z
      · rw [← cut0]; exact z
    · obtain ⟨_, o', e⟩ := hn.gm b z
      exact q6 (b, o') (List.mem_append_right _ (List.mem_append_left _ (mem_pinsAt z e))) rfl
  have stat : ∀ {s₀' : Shared} {Hw' H' : Hp} {s' : Shared} {σ' : L2.St}, Inv (G.x (cutS G.n s₀') Hw') (G.pl s₀' ++ ip) σ' H' s' → (∀ b ∈ fp, H' b = none) → ∀ b ∈ fp, FpOk (G.x (cutS G.n s₀') Hw') (G.pl s₀' ++ ip) H' b := fun {s₀' Hw' H' s' σ'} I' hn b hb => by
    obtain ⟨q2, q3, q4, q6, q7⟩ := fst b hb
    refine ⟨hn b hb, q2, q3, .inr (Nat.le_trans I'.ok.above q4), fun x c e => absurd e (plain_cells g.pl), fun q hq => ?_⟩
    have hq' : q ∈ G.pl s₀' ++ ip := hq
    rcases List.mem_append.mp hq' with z | z
    · exact fun z' => q7 (z' ▸ (of_pinsAt z).1)
    · exact q6 q z
  have loop : ∀ (r i m : Nat) (ys : List PyData) (s₀ s : Shared) (σ : L2.St) (H Hw Hsw Hs : Hp) (ρ : DEnv), i + r = ds.length → m + ys.length = sizeLine → G.C ys s₀ Hw Hsw → GWk G s₀ → Inv (G.x (cutS G.n s₀) Hw) (G.pl s₀ ++ ip) σ H s → DRel ⟨none, Hw, Hsw⟩ ρ 0 σ Hs H → Same Hs2 Hs →
      tn i s.heap → (∀ b ∈ fp, H b = none) → gForGo gt tb D (ds.drop i) ys ρ →
      G.sg m s₀ (.forLoop tg (.ref it) body [] G.env) ((model G.P G.w).den (.forLoop tg (.ref it) body [] G.env)) (.ret (backK G.env Kf J gd lv) none (gd false) (lv []) c p [] :: fs) s := by
    intro r
    induction r with
    | zero =>
      intro i m ys s₀ s σ H Hw Hsw Hs ρ hi hm hC hn I d sh st fr q
      have ei : i = ds.length := by omega
      subst ei
      rw [List.drop_length] at q
      refine seg_forLoop ?_
      rw [ov]
      refine wpAny_mono (T.done (G.x (cutS G.n s₀) Hw) rfl rfl rfl rfl ds.length (G.pl s₀ ++ ip) s σ H (fun _ _ => False) I (stat I fr) st (wk.stop _ _ ⟨sh, d.sub, fun z => nomatch z⟩)) (fun r s1 ⟨hr, I1⟩ => ?_) fun x s' hx => hx.elim
      subst hr
      refine seg_blockEnd ?_
      exact k.ok m ys s₀ s1 .next hm ⟨ρ, ⟨σ, H, Hw, Hsw, Hs, hC, hn, I1, d, sB.trans (sh2.trans sh)⟩, q⟩
    | succ r ih =>
      intro i m ys s₀ s σ H Hw Hsw Hs ρ hi hm hC hn I d sh st fr q
      have hlt : i < ds.length := by omega
      refine seg_forLoop ?_
      rw [ov]
      refine wpAny_mono (T.item (G.x (cutS G.n s₀) Hw) rfl rfl rfl rfl i (G.pl s₀ ++ ip) s σ H (fun _ _ => False) I (stat I fr) st (wk.go i _ _ hlt ⟨sh, d.sub, fun z => nomatch z⟩)) (fun r s1 ⟨u, hr, h4⟩ => ?_) fun x s' hx => hx.elim
      subst hr
      refine wpAny_mono h4 (fun _ s5 ⟨x, H5, I5, r5, y5, st5, fr5⟩ => ?_) fun x s' hx => hx.elim
      obtain ⟨dd, hd, y⟩ := wk.yld i _ _ _ _ hlt ⟨sh, d.sub, fun z => nomatch z⟩ y5
      have hdrop : ds.drop i = dd :: ds.drop (i + 1) := by
        rw [List.drop_eq_getElem_cons hlt]
        rw [List.getElem?_eq_getElem hlt] at hd
        cases hd; rfl
      rw [hdrop] at q
      obtain ⟨Hs3, d3, s3, hx⟩ : ∃ Hs3, DRel ⟨none, Hw, Hsw⟩ ρ 0 σ Hs3 H5 ∧ Same Hs Hs3 ∧ DqW wf Hs3 H5 x dd := by
        rcases y with ⟨rfl, hx⟩ | ⟨hw, T, xs, es, rfl, hT, rfl, he, rfl⟩
        · exact ⟨Hs, d, fun _ _ h => h, .inl hx⟩
        · obtain ⟨D3, E3, _⟩ := d.newOwn (o := .tup xs) hT
          exact ⟨_, D3, E3.sh, .inr ⟨hw, T, xs, es, rfl, upd_same, he, rfl⟩⟩
      have I5' : Inv (G.x (cutS G.n s₀) Hw) (G.pl s₀ ++ (ip ++ pinsAt fp s5.heap)) σ H5 s5 := by rw [← List.append_assoc]; exact I5.pinned (stat I5 fr5) (T.obj _ _ st5)
      refine wpAny_mono ((ht (cutS G.n s₀) Hw).pg.run _ s5 σ H5 x u (fun σ' H' => ∃ ρ', DRel ⟨none, Hw, Hsw⟩ ρ' 0 σ' Hs3 H' ∧ tb { nx := fun ys' ρ'' => gForGo gt tb D (ds.drop (i + 1)) ys' ρ'', bk := D.nx, ct := fun ys' ρ'' => gForGo gt tb D (ds.drop (i + 1)) ys' ρ'' } ys ρ') I5' r5
        ⟨_, ρ, 0, Hs3, dd, d3, hx, (ht (cutS G.n s₀) Hw).mono _ _ _ _ (fun ρ' q3 σ' d4 _ _ => ⟨ρ', d4, q3⟩) q⟩) (fun _ s6 ⟨σ6, H6, I6, ρ6, d6, q6⟩ => ?_) fun x s' hx => hx.elim
      have again : ∀ (m' : Nat) (ys' : List PyData) (s₀' s7 : Shared) (ρ7 : DEnv), m' + ys'.length = sizeLine → GRun G Hs2 ys' s₀' (ip ++ pinsAt fp s5.heap) ρ7 s7 → gForGo gt tb D (ds.drop (i + 1)) ys' ρ7 →
          G.sg m' s₀' (.forLoop tg (.ref it) body [] G.env) (.pure (.again (.forLoop tg (.ref it) body [] G.env))) (.ret (backK G.env Kf J gd lv) none (gd false) (lv []) c p [] :: fs) s7 := fun m' ys' s₀' s7 ρ7 hm' ⟨σ7, H7, Hw7, Hsw7, Hs7, hC7, hn7, I7, d7, sB7⟩ q7 => by
        refine seg_again rfl (ih (i + 1) m' ys' s₀' s7 σ7 H7 Hw7 Hsw7 Hs7 ρ7 (by omega) hm' hC7 hn7 (I7.unA) d7 sB7 (T.keep _ _ _ st5 fun b hb o e => (I7.pin (b, o) (List.mem_append_right _ (List.mem_append_right _ (List.mem_append_right _ (mem_pinsAt hb e))))).1) (fun b hb => ?_) q7)
        obtain ⟨o, e, dd⟩ := T.obj _ _ st5 b hb
        exact (I7.pin (b, o) (List.mem_append_right _ (List.mem_append_right _ (List.mem_append_right _ (mem_pinsAt hb e))))).2.1
      refine hb.run Hs2 (ip ++ pinsAt fp s5.heap) m ys s₀ _ _ _ _ id id s6 ρ6 _ (fun q hq => ?_) gl hm ⟨fun m' ys' s₀' s7 fl hm' hs => ?_⟩ ⟨σ6, H6, Hw, Hsw, Hs3, hC, hn, I6, d6, sh.trans s3⟩ q6
      · rcases List.mem_append.mp hq with z | z
        · exact hp q z
        · obtain ⟨_, _, q4, _, q7⟩ := fst q.1 (of_pinsAt z).1
          exact ⟨q4, q7⟩
      · cases fl with
        | next =>
          obtain ⟨ρ7, I7, q7⟩ := hs
          exact again m' ys' s₀' s7 ρ7 hm' I7 q7
        | cont =>
          obtain ⟨ρ7, I7, q7⟩ := hs
          exact again m' ys' s₀' s7 ρ7 hm' I7 q7
        | brk =>
          obtain ⟨ρ7, ⟨σ7, H7, Hw7, Hsw7, Hs7, hC7, hn7, I7, d7, sB7⟩, q7⟩ := hs
          refine seg_leaf (.ok .next) (k.ok m' ys' s₀' s7 .next hm' ⟨ρ7, ⟨σ7, H7, Hw7, Hsw7, Hs7, hC7, hn7, I7.unA, d7, sB.trans (sh2.trans sB7)⟩, q7⟩)
        | ret u => exact hs.elim
  exact loop ds.length 0 m ys s₀ s2 σ H2 Hw Hsw Hs2 ρ2 (Nat.zero_add _) hm hC hn I2 d2 (fun _ _ h => h) st2 (fun b hb => (f2 b hb).1) hq
end
end DL

/-! a generator def's promise over data -/
namespace DL
open PySem PySem.Spec PyProof.Rows L2 GenW GnR
/-- a generator that has not begun: it will hand out these -/
def GMadeD (P : Program) (w : World) (K : PySem.W.Frag) (mg : Str → Option Value) (base : Heap) (k : Nat) (outer : List PySem.Env) (s : Shared) (Hs : Hp) (out : List PyData) (u : Value) (s' : Shared) : Prop :=
  ∃ (a : Addr) (g : Nat) (c : Code) (o : Obj), u = .ref a ∧ s.heap.objs.size < a ∧ a < s'.heap.objs.size ∧ s'.heap.IsGen a g ∧ s'.gens[g]? = some (.fresh c) ∧ s'.os = s.os ∧ AllBare s'.gens ∧ s'.heap.NoLimit ∧ (∀ b o, s.heap.get? b = some o → s'.heap.get? b = some o) ∧
    s'.heap.get? s.heap.objs.size = some o ∧
    ∀ (A : Around) (C : CEV) (gm : List Addr) (s2 : Shared) (H2 Hs2 : Hp), Room k A → C [] s2 H2 Hs2 → Woke P w K mg base A outer s.heap.objs.size gm [(s.heap.objs.size, o)] s2 H2 Hs2 → Same Hs Hs2 →
      Seg (model P w) A (GRd P w outer s.heap.objs.size gm C fun ys => ys = out) (GYd P w K mg base A outer s.heap.objs.size gm C) sizeLine s2 c ((model P w).den c) [] s2
structure GenOk (P : Program) (w : World) (K : PySem.W.Frag) (mg : Str → Option Value) (base : Heap) (k : Nat) (f : Addr) (fd : FuncData) (ps : List Str) (PG : List PyData → Prop) (FG : List PyData → List PyData) : Prop where
  len : ∀ ds, PG ds → ds.length = ps.length
  run : ∀ (A : Around) (outer : List PySem.Env) (s : Shared) (H Hs : Hp) (args : Args) (us : List Value) (vs : List V) (ds : List PyData), Room k A → Env0 P w K mg base A outer s H → BindsTo s fd args (ps.zip us) → Vals vs us → DqAll Hs vs ds → PG ds →
    codeAny (model P w) A (.call (.ref f) args) (fun r s' => match r with | .ok (.ret u) => GMadeD P w K mg base k outer s Hs (FG ds) u s' | _ => False) s
theorem GRun.ran {G : GPl} {ip : List (Addr × Obj)} {σ : L2.St} {H Hw Hsw Hs : Hp} {s₀ s : Shared} {ρ : DEnv} {k : Nat} (hn : GWk G s₀) (I : Inv (G.x (cutS G.n s₀) Hw) (G.pl s₀ ++ ip) σ H s) (d : DRel ⟨none, Hw, Hsw⟩ ρ k σ Hs H) : Ran G.P G.w G.outer G.n G.gm s₀ Hw Hsw s H Hs := by
  refine ⟨I.os, I.bare, I.nolimit, I.base, I.hok, fun b z => ?_, Nat.le_of_lt I.lt, d.sub, d.base, d.fix, fun p o h => d.old p o (fun z => by cases z) h⟩
  obtain ⟨_, o', e⟩ := hn.gm b z
  obtain ⟨q1, q2, _⟩ := I.pin (b, o') (List.mem_append_right _ (List.mem_append_left _ (mem_pinsAt z e)))
  exact ⟨q2, fun o'' e'' => by rw [e] at e''; cases e''; exact q1⟩
theorem start_dat {N : List Str} {vs : List V} {ds : List PyData} {H Hs : Hp} (sub : Same Hs H) (h : DqAll Hs vs ds) : DRel ⟨none, H, Hs⟩ (startD N (ds.map R.dat)) 0 (start N vs) Hs H := by
  have hl := dpAll_len h
  have at1 : ∀ i : Nat, (startD N (ds.map R.dat))[i]? = if i < ds.length then (ds[i]?).map Sl.dat else if i < ds.length + (N.length - ds.length) then some .un else none := fun i => by
    unfold startD
    by_cases hi : i < ds.length
    · rw [if_pos hi, List.getElem?_append_left (by simpa using hi), List.getElem?_map, List.getElem?_map]
      cases ds[i]? <;> rfl
    · rw [if_neg hi, List.getElem?_append_right (by simpa using hi), List.getElem?_replicate]
      simp only [List.length_map]
      by_cases h2 : i < ds.length + (N.length - ds.length)
      · rw [if_pos h2, if_pos (by omega)]
      · rw [if_neg h2, if_neg (by omega)]
  refine ⟨sub, fun _ _ h => h, fun _ _ => rfl, fun _ _ _ h => h, fun b h => (by cases h), ?_, fun i => ?_, fun i j o o' a h => ?_⟩
  · unfold startD L2.start
    simp [hl]
  · rw [at1]
    by_cases hi : i < ds.length
    · rw [if_pos hi]
      obtain ⟨d, hd⟩ : ∃ d, ds[i]? = some d := ⟨ds[i], List.getElem?_eq_getElem hi⟩
      obtain ⟨v, hv, hq⟩ := dpAll_get h hd
      rw [hd]
      refine ⟨v, ?_, hq⟩
      unfold L2.start
      rw [List.getElem?_append_left (by rw [List.length_map, hl]; exact hi), List.getElem?_map, hv]
      rfl
    · rw [if_neg hi]
      split <;> trivial
  · rw [at1] at h
    split at h
    · rw [Option.map_eq_some_iff] at h
      obtain ⟨_, _, h⟩ := h
      cases h
    · split at h <;> cases h

/-- THE RULE: a generator def, by its body -/
theorem gen_of {P : Program} {w : World} {K : PySem.W.Frag} {mg : Str → Option Value} {base : Heap} {k : Nat} {f : Addr} {name qual : Str} {params : Arguments} {body : List Stmt} {scope : Scope} {dV kV doc pm cdv ct oc : Value} {an od : Option Addr}
    {osl : Array (Option Value)} {N ps : List Str} {PG : List PyData → Prop} {FG : List PyData → List PyData} {t : TGS} (lk : K.lookup f = some ⟨oc, od, .func (PySem.W.fnOf name qual params body scope dV kV doc pm an cdv ct), osl⟩) (hcd : PySem.W.codeIn K cdv qual = true) (S : GScope N ps scope) (S2 : Plain scope)
    (len : ∀ ds, PG ds → ds.length = ps.length)
    (hbody : ∀ (A : Around) (outer : List PySem.Env) (n : Nat) (gm : List Addr) (C : CEV) (Q : List PyData → Prop), Room k (A.deeper (envOfC qual scope n f cdv)) → GDs ⟨P, w, K, mg, base, N, qual, scope, f, cdv, A, outer, n, gm, C, Q⟩ body t)
    (hs : ∀ ds, PG ds → t { nx := fun ys _ => ys = FG ds, bk := fun _ _ => False, ct := fun _ _ => False } [] (startD N (ds.map R.dat))) :
    GenOk P w K mg base (k + 1) f (PySem.W.fnOf name qual params body scope dV kV doc pm an cdv ct) ps PG FG := by
  refine ⟨len, fun A outer s H Hs args us vs ds hr e0 hb r hds hsp => ?_⟩
  have hl : vs.length = ps.length := (dpAll_len hds).trans (len _ hsp)
  have KX : K.In s.heap := e0.mod.kin.keeps fun b o e => (e0.bs b o e).1
  have lim : s.heap.NoLimit := e0.mod.nolimit.keeps fun b o e => (e0.bs b o e).1
  have hkind : ∀ y ∈ ps.zip us, scope.names.lookup y.1 = some .local ∨ (scope.names.lookup y.1 = some .cell ∧ ((cellsFrom (s.heap.objs.size + 1) scope.names []).lookup y.1).isSome = true) := fun ⟨n, v⟩ hy => by
    rcases S.par n (List.of_mem_zip hy).1 with q | q
    · exact .inl q
    · exact .inr ⟨q, PySem.W.cellsFrom_some _ _ _ (.inl q)⟩
  refine codeAny_call_generator hr.depth (KX _ _ lk) rfl S.co S.gen rfl (PySem.W.codeRec_of KX hcd) (hb _ _ _ _ ?_)
  refine wpAny_newFunctionEnv_cells S.kind hkind fun env he s1 x => ?_
  subst he
  have lim1 : s1.heap.NoLimit := lim.keeps x.toInCall.keep
  refine ⟨lim1, ?_⟩
  have I1 : Inv (gcxOf P w K mg base N qual scope f cdv A outer s H (fun _ _ _ => False) []) [] (start N vs) H s1 := inv_startG S hr.hd e0 hl r x
  obtain ⟨h1, tk, es1, hk1⟩ := x.done
  have os1 : s1.os = s.os := by rw [es1]
  have gen1 : s1.gens = s.gens := by rw [es1]
  have lt1 : s.heap.objs.size < s1.heap.objs.size := x.toInCall.ns.lt
  have kp1 : ∀ b o, s.heap.get? b = some o → s1.heap.get? b = some o := x.toInCall.keep
  obtain ⟨m, ⟨o, es, ep, ho, hdict, hrest⟩, hloc⟩ := I1.loc
  have ho' : s1.heap.get? s.heap.objs.size = some o := ho
  have main : ∀ (go : Obj) (nm qn : Value) (tk2 : Nat), go.cls = .type "generator" → go.data = .fields #[.int s1.gens.size 0, nm, qn] → go.slots = #[] → (∀ h : Heap, (h.push go).get? h.objs.size = some go) →
      GMadeD P w K mg base (k + 1) outer s Hs (FG ds) (.ref s1.heap.objs.size) { s1 with gens := s1.gens.push (.fresh (.func body (envOfC qual scope s.heap.objs.size f cdv))), toks := tk2, heap := s1.heap.push go } := by
    intro go nm qn tk2 hgc hgd0 hgs hgp
    have hpushed : (s1.heap.push go).get? s1.heap.objs.size = some go := hgp _
    refine ⟨s1.heap.objs.size, s1.gens.size, _, o, rfl, lt1, ?_, ⟨go, nm, qn, hpushed, hgc, hgd0, hgs⟩, Array.getElem?_push_size .., os1, ?_, lim1.keeps fun b o e => Heap.get?_push_of_some _ e, fun b o e => Heap.get?_push_of_some _ (kp1 b o e), Heap.get?_push_of_some _ ho', ?_⟩
    · show _ < (s1.heap.push _).objs.size
      rw [Heap.size_push]; exact Nat.lt_succ_self _
    · exact AllBare.push (by rw [gen1]; exact e0.bare) rfl
    intro Aw C gm s2 H2 Hs2 hrw hC W S3
    have ht := hbody Aw outer s.heap.objs.size gm C (fun ys => ys = FG ds) (hrw.deeper _)
    refine seg_func ?_
    refine ht.run Hs2 [] sizeLine [] s2 _ [] _ _ id id s2 (startD N (ds.map R.dat)) _ (fun p hp => by simp at hp) ⟨S2, hrw.hd, over_func, rfl, rfl, rfl⟩ (Nat.add_zero _) ⟨fun m' ys s₀' s' fl hm hs' => ?_⟩ ⟨start N vs, H2, H2, Hs2, Hs2, hC, W.wk, ?_, start_dat W.sub (dpAll_mono S3 hds), fun _ _ h => h⟩ (hs ds hsp)
    · cases fl with
      | next =>
        obtain ⟨ρ, ⟨σ, H', Hw, Hsw, Hs', hC', hwk, I', d', _⟩, q⟩ := hs'
        exact seg_end (.ok (.ret .none)) (.inl ⟨.inl rfl, ys, Hw, Hsw, H', Hs', hC', GRun.ran hwk I' d', hm, q⟩)
      | brk => obtain ⟨_, _, q⟩ := hs'; exact q.elim
      | cont => obtain ⟨_, _, q⟩ := hs'; exact q.elim
      | ret u => exact hs'.elim
    · refine gx_at S2 hrw.hd W (m := m) ⟨es, ep, hdict, fun h e => ⟨o, es, ep, e, hdict, hrest⟩⟩ (fun i y v e1 e2 e3 => ?_) I1.len fun p hp => by simp at hp
      obtain ⟨u, r, l⟩ := hloc i y v e1 e2 e3
      rcases l with ⟨l1, l2⟩ | ⟨_, c, e, _⟩
      · exact ⟨u, r, l1, l2⟩
      · exact absurd e (plain_cells S2)
  exact main _ _ _ _ rfl rfl rfl fun h => Heap.get?_push_size _ rfl
theorem plain_mk {sc : Scope} (hk : sc.kind = .function) (hc : sc.isCoroutine = false) (h : ∀ y ∈ sc.names, y.2 ≠ .cell ∧ y.2 ≠ .free) (hz : ∀ k, cellsFrom k sc.names [] = []) : Plain sc :=
  ⟨hk, hc, fun x => ⟨fun e => (h _ (PySem.mem_of_lookup e)).1 rfl, fun e => (h _ (PySem.mem_of_lookup e)).2 rfl⟩, hz⟩
structure CalG (P : Program) (w : World) (K : PySem.W.Frag) (mg : Str → Option Value) (base : Heap) (x : Str) (ps : List Str) (k : Nat) (PG : List PyData → Prop) (FG : List PyData → List PyData) : Prop where
  ex : ∃ f fd, GenOk P w K mg base k f fd ps PG FG ∧ mg x = some (.ref f) ∧ PySem.W.keepIn K (.ref f) = true ∧ Binds K fd ps []
theorem calg_mk {P : Program} {w : World} {K : PySem.W.Frag} {mg : Str → Option Value} {base : Heap} {x qual : Str} {st : Stmt} {f : Addr} {fd : FuncData} {N ps : List Str} {k : Nat} {PG : List PyData → Prop} {FG : List PyData → List PyData} {t : TGS} (F : Fun K x qual st f fd) (hm : mg x = some (.ref f)) (hb : Binds K fd ps [])
    (S : GScope N ps (defScope st)) (S2 : Plain (defScope st)) (len : ∀ ds, PG ds → ds.length = ps.length)
    (hbody : ∀ (cdv : Value) (A : Around) (outer : List PySem.Env) (n : Nat) (gm : List Addr) (C : CEV) (Q : List PyData → Prop), Room k (A.deeper (envOfC qual (defScope st) n f cdv)) → GDs ⟨P, w, K, mg, base, N, qual, defScope st, f, cdv, A, outer, n, gm, C, Q⟩ (defBody st) t)
    (hs : ∀ ds, PG ds → t { nx := fun ys _ => ys = FG ds, bk := fun _ _ => False, ct := fun _ _ => False } [] (startD N (ds.map R.dat))) : CalG P w K mg base x ps (k + 1) PG FG := by
  obtain ⟨oc, od, kV, doc, pm, an, cdv, ct, osl, rfl, lk, hcd⟩ := F.ex
  exact ⟨f, _, gen_of lk hcd S S2 len (hbody cdv) hs, hm, F.kp, hb⟩
end DL

/-! who walks a generator: for x in g(..): xs.append(x) -/
namespace DL
open PySem PySem.Spec PyProof.Rows L2 GenW GnR
section
variable {X : Cx} {pins : List (Addr × Obj)} {σ : L2.St} {H : Hp} {s : Shared}
/-- a local name is loaded: the state stays -/
theorem ld_var {i : Nat} {x : Str} {pos : Pos} {v : V} {Q : Value → Shared → Prop} {E : Value → Shared → Prop} (I : Inv X pins σ H s) (hN : X.N[i]? = some x) (hv : Vis X.env.scope x) (e : σ[i]? = some (some v)) (h : ∀ u, RelV v u → Q u s)
    (hd : (x == ("__debug__" : Str)) = false := by decide) (hcd : (x == ("__classdict__" : Str)) = false := by decide) : wpAny (model X.prog X.w) X.A (eval (.Name x pos) X.env) Q E s := by
  obtain ⟨m, hn, hl⟩ := I.loc
  obtain ⟨u, r, l⟩ := hl i x v hN e hv
  rcases l with ⟨hk, hm⟩ | ⟨hk, c, hc, hcell⟩
  · exact wpAny_Name (wpAny_loadName_local I.ok.kind hk hn hm (h u r)) hd
  · rcases hk with hk | hk
    · exact wpAny_Name (wpAny_loadName_cell I.ok.kind hk hc hcell (h u r)) hd
    · exact wpAny_Name (wpAny_loadName_free I.ok.kind hk hc hcell (h u r) hcd) hd
/-- a plain local is stored: the generators stay -/
theorem st_var {A : Around} {M : Model} {i : Nat} {x : Str} {v : V} {u : Value} {Q : Unit → Shared → Prop} {E : Value → Shared → Prop} (I : Inv X pins σ H s) (hN : X.N.Nodup) (hi : X.N[i]? = some x) (hk : X.env.scope.names.lookup x = some .local) (r : RelV v u)
    (h : ∀ h' t, Inv X pins (σ.set i (some v)) H { s with heap := h', toks := t } → Heap.SameBut X.env.locals s.heap h' → Q () { s with heap := h', toks := t }) : wpAny M A (storeName X.env x u) Q E s := by
  obtain ⟨m, hn, hl⟩ := id I.loc
  have hcls : (X.env.scope.kind == .class || (X.env.scope.kind == .module && X.env.locals != X.env.globals)) = false := by rw [I.ok.kind]; rfl
  have hiσ : i < σ.length := by rw [I.len]; exact (List.getElem?_eq_some_iff.mp hi).1
  refine wpAny_storeName_local hk hn (fun h' hn' hs => h h' _ ?_ hs) hcls
  obtain ⟨oL, _, _, hoL, _⟩ := id hn
  have nb : ∀ b o, X.s_0.heap.get? b = some o → b ≠ X.env.locals := fun b o e => Nat.ne_of_lt (Nat.lt_of_lt_of_le (Heap.lt_size e) I.ok.above)
  refine ⟨I.ok, I.os, I.bare, ⟨fun b o e n hb hx => (hs.2 b (nb b o e)).trans (I.base.keep b o e n hb hx), fun b o e n hb hx => ?_, I.base.free, fun b o e hx => ?_, I.base.tups, I.base.frzs, I.base.tbls⟩, ⟨_, hn', fun j y v' e1 e2 e3 => ?_⟩, fun y c e => ?_, I.free, I.freeC, fun p hp => ?_, fun b ob e => ?_, by simpa using I.len⟩
  · obtain ⟨sl, e1⟩ := I.base.slot b o e n hb hx
    exact ⟨sl, (hs.2 b (nb b o e)).trans e1⟩
  · obtain ⟨o', e1⟩ := I.base.there b o e hx
    exact ⟨o', (hs.2 b (nb b o e)).trans e1⟩
  · by_cases hj : j = i
    · subst hj
      rw [hi] at e1; cases e1
      rw [List.getElem?_set_self hiσ] at e2
      cases e2
      exact ⟨u, r, .inl ⟨hk, by simp⟩⟩
    · rw [List.getElem?_set_ne (Ne.symm hj)] at e2
      obtain ⟨u', r', q⟩ := hl j y v' e1 e2 e3
      refine ⟨u', r', ?_⟩
      rcases q with ⟨k, e⟩ | ⟨k, c, e, z⟩
      · refine .inl ⟨k, ?_⟩
        have : y ≠ x := fun e => hj (nodup_ix hN e1 (e ▸ hi))
        simp [this, e]
      · exact .inr ⟨k, c, e, z.sameBut hs (I.cne y c e)⟩
  · obtain ⟨w', z⟩ := I.cell y c e
    exact ⟨w', z.sameBut hs (I.cne y c e)⟩
  · obtain ⟨e, n, ne, nf, d⟩ := I.pin p hp
    exact ⟨(hs.2 p.1 ne).trans e, n, ne, nf, d⟩
  · refine (I.hok b ob e).stay (fun c w' hc q => (hs.2 c ?_).trans q) (fun _ q => q) fun _ _ q => q
    rintro rfl
    have hfree := I.free
    rcases hc with rfl | hc
    · rw [hfree] at e; cases e
    · rw [hfree] at hc; cases hc
/-- xs.append(x): the generators stay -/
theorem app_run {i j : Nat} {x y : Str} {l : Addr} {xs : List V} {v : V} {pos cpos apos xpos ypos : Pos} {Q : Flow → Shared → Prop} {E : Value → Shared → Prop} (I : Inv X pins σ H s)
    (hj : X.N[j]? = some y) (hvj : Vis X.env.scope y) (ej : σ[j]? = some (some (.ref l))) (hi : X.N[i]? = some x) (hvi : Vis X.env.scope x) (ei : σ[i]? = some (some v)) (hH : H l = some (.lst xs)) (hz : xs.length < sizeLine)
    (h : ∀ h' t, Inv X pins σ (upd H l (.lst (xs ++ [v]))) { s with heap := h', toks := t } → (∀ b, b ≠ l → h'.get? b = s.heap.get? b) → Q .next { s with heap := h', toks := t })
    (hdy : (y == ("__debug__" : Str)) = false) (hcdy : (y == ("__classdict__" : Str)) = false) (hdx : (x == ("__debug__" : Str)) = false) (hcdx : (x == ("__classdict__" : Str)) = false)
    (hbase : attributeBase (.Name y ypos) "append" X.env (eval (.Name y ypos) X.env) = eval (.Name y ypos) X.env)
    (hfew : ((backTo cpos (starEach [.Name x xpos] X.env)).all (fun x => !x.1) && (backToKw cpos (keywordEach [] X.env)).all (fun x => x.1.isSome)
      && decide ([Expr.Name x xpos].length + ([] : List Keyword).length + (if ([] : List Keyword).isEmpty then 0 else 1) < 30)) = true)
    (hline : (apos.endLine == cpos.line) = true) (hs : starEach [.Name x xpos] X.env = (false, eval (.Name x xpos) X.env) :: starEach [] X.env) (hplain : (backTo cpos (starEach [] X.env)).any (·.1) = false)
    (hsw : swapsWith (.Call (.Attribute (.Name y ypos) "append" apos) [.Name x xpos] [] cpos) none pos.line X.env = pure false) :
    wpAny (model X.prog X.w) X.A (exec (.Expr (.Call (.Attribute (.Name y ypos) "append" apos) [.Name x xpos] [] cpos) pos) X.env) Q E s := by
  refine wpAny_Expr_any (wpAny_Call_method_late hbase hfew hline rfl (ld_var I hj hvj ej (fun u ru => ?_) hdy hcdy)) I.quiet hsw
  cases ru
  obtain ⟨h1, h2⟩ := tyV_is (T := "list") (x := .ref l) I rfl (.inl ⟨rfl, xs, SqL.of hH⟩)
  refine ⟨"list", "list.append", PySem.F.plainAttrs_list, PySem.F.slot_list_append, PySem.F.type_list_append, h1, h2, ?_⟩
  rw [hs]
  refine Calls.callWith_builtin (by show (false || (backTo cpos (starEach [] X.env)).any (·.1)) = false; rw [hplain] <;> rfl) (Calls.evalArgs_plain ?_)
  refine Calls.spliced_cons (ld_var I hi hvi ei (fun u ru => Calls.spliced_nil ?_) hdx hcdx)
  obtain ⟨z, its, n, r, hl, e⟩ := I.lstM hH
  refine call_meets F.slot_list_append ⟨_, e, rfl⟩ F.entry_list_append (F.args_list_append_2 _ _) (PySem.list_append l its.toArray n u (by rw [List.size_toArray]; omega)) ⟨e, ?_⟩
  refine h _ _ (I.lset (its' := its ++ [u]) hH e (by simp) (r.append (.cons ru .nil)) ?_) fun b hb => Heap.get?_update_other _ _ (Ne.symm hb)
  rw [List.length_append, List.length_singleton]
  omega
end

/-! ### behind a turn of the generator -/
theorem Ran.inv {X : Cx} {pins : List (Addr × Obj)} {σ : L2.St} {Hw Hsw H Hs : Hp} {n : Nat} {gm : List Addr} {s₀ s : Shared} (I : Inv X pins σ Hw s₀) (hn : X.s_0.heap.objs.size ≤ n) (hL : X.env.locals < n) (hc : ∀ x c, X.env.cells.lookup x = some c → c < n) (hp : ∀ p ∈ X.pn ++ pins, p.1 < n)
    (R : Ran X.prog X.w X.stack n gm s₀ Hw Hsw s H Hs) : Inv X pins σ H s := by
  have out : ∀ b o, s₀.heap.get? b = some o → b ∉ (List.range s₀.heap.objs.size).filter (fun b => decide (n ≤ b) && decide (b ∉ gm)) → b < n ∨ b ∈ gm := fun b o e hx => by
    rcases Nat.lt_or_ge b n with z | z
    · exact .inl z
    · refine .inr (Classical.byContradiction fun z2 => hx (List.mem_filter.mpr ⟨List.mem_range.mpr (Heap.lt_size e), by simp [z, z2]⟩))
  refine I.call' (ch := (List.range s₀.heap.objs.size).filter (fun b => decide (n ≤ b) && decide (b ∉ gm))) R.os ⟨fun b o e hn' hf hx => ?_, fun b o e hn' hf hx => ?_, fun b o e hn' hx => ?_, fun b o e hx => ?_, R.un.tups, R.un.frzs, R.un.tbls⟩ R.hok R.bare fun b hb => ?_
  · rcases out b o e hx with z | z
    · exact R.un.keep b o (get_cut z e) hn' hf (by simp)
    · exact (R.gm b z).2 o e
  · rcases out b o e hx with z | z
    · exact R.un.slot b o (get_cut z e) hn' hf (by simp)
    · exact ⟨o.slots, (R.gm b z).2 o e⟩
  · rcases out b o e hx with z | z
    · exact R.un.free b o (get_cut z e) hn' (by simp)
    · exact (R.gm b z).1
  · rcases out b o e hx with z | z
    · exact R.un.there b o (get_cut z e) (by simp)
    · exact ⟨o, (R.gm b z).2 o e⟩
  · have hb' : n ≤ b := by
      have := (List.mem_filter.mp hb).2
      simp only [Bool.and_eq_true, decide_eq_true_eq] at this
      exact this.1
    exact ⟨.inr (Nat.le_trans hn hb'), Nat.ne_of_gt (Nat.lt_of_lt_of_le hL hb'), fun x c e => Nat.ne_of_lt (Nat.lt_of_lt_of_le (hc x c e) hb'), fun p z => Nat.ne_of_lt (Nat.lt_of_lt_of_le (hp p z) hb')⟩
theorem DRel.after {c : Bs} {ρ : DEnv} {k : Nat} {σ : SV} {Hw Hsw H Hs : Hp} (D : DRel c ρ k σ Hsw Hw) (sub : Same Hs H) (base : Same Hsw Hs) (fix : ∀ p, Hw p ≠ none → Hs p = Hsw p) (old : ∀ p o, Hw p = some o → H p = some o) : DRel c ρ k σ Hs H := by
  have own : ∀ {a : Addr} {o : Own}, OwnAt c Hsw Hw a o → OwnAt c Hs H a o := fun {a o} ⟨ho, h1, h2, h3, h4, h5⟩ => ⟨ho, old _ _ h1, ownRel_mono base h2, by rw [fix a (ne_none h1)]; exact h3, h4, h5⟩
  refine ⟨sub, fun b o h => base _ _ (D.base _ _ h), fun p h => by rw [fix p (D.domH h)]; exact D.fix p h, fun p o h1 h2 => old _ _ (D.old p o h1 h2), fun b h => ?_, D.len, fun i => ?_, D.dist⟩
  · obtain ⟨⟨x, y, z, q, q2⟩, q3⟩ := D.bag b h
    exact ⟨⟨x, y, z, old _ _ q, q2⟩, by rw [fix b (ne_none q)]; exact q3⟩
  · have h := D.slot i
    unfold SlotOk at h ⊢
    split
    · rename_i d e
      rw [e] at h
      obtain ⟨x, h1, h2⟩ := h
      exact ⟨x, h1, dp_mono base h2⟩
    · rename_i o e
      rw [e] at h
      obtain ⟨a, h1, h2⟩ := h
      exact ⟨a, h1, own h2⟩
    · rename_i x e
      rw [e] at h
      exact h
    · rename_i e
      rw [e] at h
      exact h
    · trivial
/-- data alone -/
def datsOf : List R → Option (List PyData)
  | [] => some []
  | .dat d :: r => (datsOf r).map (d :: ·)
  | _ => none
theorem datsOf_eq : ∀ {rs : List R} {ds : List PyData}, datsOf rs = some ds → rs = ds.map R.dat
  | [], ds, h => by cases h; rfl
  | .dat d :: r, ds, h => by
    unfold datsOf at h
    rw [Option.map_eq_some_iff] at h
    obtain ⟨es, h1, rfl⟩ := h
    rw [datsOf_eq h1]; rfl
  | .tmp _ :: _, _, h => nomatch h
  | .own _ :: _, _, h => nomatch h
  | .raw _ :: _, _, h => nomatch h
  | .bag :: _, _, h => nomatch h
theorem dats_q {c : Bs} {ρ : DEnv} {σ : SV} {Hs H : Hp} : ∀ {ds : List PyData} {vs : List V}, Paired (RRel c ρ σ Hs H) (ds.map R.dat) vs → DqAll Hs vs ds
  | [], _, .nil => .nil
  | d :: r, _, .cons h t => .cons h (dats_q t)
def appEnd (i j : Nat) : List PyData → List PyData → DEnv → DEnv
  | _, [], ρ => ρ
  | acc, d :: r, ρ => appEnd i j (acc ++ [d]) r ((ρ.set i (.dat d)).set j (.own (.lst (acc ++ [d]))))
theorem appEnd_snoc {i j : Nat} {d : PyData} : ∀ {ys acc : List PyData} {ρ : DEnv}, appEnd i j acc (ys ++ [d]) ρ = ((appEnd i j acc ys ρ).set i (.dat d)).set j (.own (.lst (acc ++ (ys ++ [d]))))
  | [], acc, ρ => rfl
  | y :: ys, acc, ρ => by
    show appEnd i j (acc ++ [y]) (ys ++ [d]) _ = _
    rw [appEnd_snoc (ys := ys)]
    rw [List.append_assoc]
    rfl
theorem appEnd_len {i j : Nat} : ∀ {ys acc : List PyData} {ρ : DEnv}, (appEnd i j acc ys ρ).length = ρ.length
  | [], _, _ => rfl
  | y :: ys, acc, ρ => by
    show (appEnd i j (acc ++ [y]) ys _).length = _
    rw [appEnd_len (ys := ys)]; simp
theorem appEnd_own {i j : Nat} (ys acc : List PyData) {ρ : DEnv} (h : ρ[j]? = some (.own (.lst acc))) : (appEnd i j acc ys ρ)[j]? = some (.own (.lst (acc ++ ys))) := by
  induction ys generalizing acc ρ with
  | nil => rw [List.append_nil]; exact h
  | cons y ys ih =>
    have hj : j < ρ.length := by
      rcases Nat.lt_or_ge j ρ.length with q | q
      · exact q
      · rw [List.getElem?_eq_none q] at h; cases h
    have := ih (acc ++ [y]) (ρ := (ρ.set i (.dat y)).set j (.own (.lst (acc ++ [y])))) (List.getElem?_set_self (by rw [List.length_set]; exact hj))
    rw [List.append_assoc] at this
    exact this
/-- for x in g(..): xs.append(x) -/
def dForApp (i j : Nat) (PG : List PyData → Prop) (FG : List PyData → List PyData) (t : TAD) : TSD := fun D ρ n => t ρ n fun rs ρ1 n1 => match datsOf rs with
  | some ds => PG ds ∧ ρ1[j]? = some (.own (.lst [])) ∧ D.nx (appEnd i j [] (FG ds) ρ1) n1
  | none => False
theorem isGen_at {h : Heap} {a : Addr} {g : Nat} (x : h.IsGen a g) : ∃ o, h.get? a = some o ∧ ∀ v, o.data ≠ .cell v := by
  obtain ⟨o, nm, qn, e, _, hd, _⟩ := x
  exact ⟨o, e, fun v z => by rw [hd] at z; cases z⟩
theorem isGen_of {h h' : Heap} {a : Addr} {g : Nat} (x : h.IsGen a g) (k : ∀ o, h.get? a = some o → h'.get? a = some o) : h'.IsGen a g := by
  obtain ⟨o, nm, qn, e, r⟩ := x
  exact ⟨o, nm, qn, k o e, r⟩
section
variable {X : Cx} {x y xf : Str} {p pos apos ypos xpos cpos epos npos : Pos} {e : Expr} {es : List Expr} {t : TAD} {k : Nat} {ps : List Str} {PG : List PyData → Prop} {FG : List PyData → List PyData}
theorem fs_forApp (i j : Nat) (hcalm : X.calm = true) (nd : X.N.Nodup) (G : CalG X.prog X.w X.K X.mg X.base xf ps k PG FG) (hr : Room (k + 1) X.A) (ha : FA X (e :: es) t)
    (hij : i ≠ j := by decide) (hi : X.N[i]? = some x := by rfl) (hk : X.env.scope.names.lookup x = some .local := by rfl) (hj : X.N[j]? = some y := by rfl) (hvj : Vis X.env.scope y := by first | exact Or.inl rfl | exact Or.inr (Or.inl rfl) | exact Or.inr (Or.inr rfl))
    (hg : Gl X xf := by rfl) (hdb : (xf == ("__debug__" : Str)) = false := by decide) (he : starEach (e :: es) X.env = (false, eval e X.env) :: starEach es X.env := by rfl) (hpl : (backTo pos (starEach es X.env)).any (·.1) = false := by rfl)
    (hdy : (y == ("__debug__" : Str)) = false := by decide) (hcdy : (y == ("__classdict__" : Str)) = false := by decide) (hdx : (x == ("__debug__" : Str)) = false := by decide) (hcdx : (x == ("__classdict__" : Str)) = false := by decide)
    (hbase : attributeBase (.Name y ypos) "append" X.env (eval (.Name y ypos) X.env) = eval (.Name y ypos) X.env := by rfl)
    (hfew : ((backTo cpos (starEach [.Name x xpos] X.env)).all (fun x => !x.1) && (backToKw cpos (keywordEach [] X.env)).all (fun x => x.1.isSome)
      && decide ([Expr.Name x xpos].length + ([] : List Keyword).length + (if ([] : List Keyword).isEmpty then 0 else 1) < 30)) = true := by rfl)
    (hline : (apos.endLine == cpos.line) = true := by rfl) (hs : starEach [.Name x xpos] X.env = (false, eval (.Name x xpos) X.env) :: starEach [] X.env := by rfl) (hplain : (backTo cpos (starEach [] X.env)).any (·.1) = false := by rfl)
    (hsw : swapsWith (.Call (.Attribute (.Name y ypos) "append" apos) [.Name x xpos] [] cpos) none epos.line X.env = pure false := by rfl)
    (hfs : ∀ v, foldedSetIterable (.Call (.Name xf p) (e :: es) [] pos) X.env v = pure v := by intro _; rfl) {fpos : Pos} :
    FS X (.For (.Name x npos) (.Call (.Name xf p) (e :: es) [] pos) [.Expr (.Call (.Attribute (.Name y ypos) "append" apos) [.Name x xpos] [] cpos) epos] [] fpos) (dForApp i j PG FG t) := by
  obtain ⟨f, fd, F, hm, hkp, hb⟩ := G.ex
  refine ⟨fun D D' ρ n le h => ha.mono _ _ _ _ (fun rs ρ' n' q => ?_) h, ⟨fun pins s σ H D I hq => ?_⟩⟩
  · revert q
    split
    · exact fun ⟨q1, q2, q3⟩ => ⟨q1, q2, le.nx _ _ q3⟩
    · exact id
  obtain ⟨c, ρ, n0, Hs, d, hq⟩ := hq
  have hh : X.A.handled = none := I.ok.hd hcalm
  have first : wpAny (model X.prog X.w) X.A (eval (.Call (.Name xf p) (e :: es) [] pos) X.env) (fun u s1 => ∃ (sc : Shared) (H1 Hs1 : Hp) (ρ1 : DEnv) (n1 : Nat) (ds : List PyData), Inv X pins σ H1 sc ∧ DRel c ρ1 n1 σ Hs1 H1 ∧ Same Hs Hs1 ∧ PG ds ∧ ρ1[j]? = some (.own (.lst [])) ∧ (EndsD.lift c Hs D).nx (appEnd i j [] (FG ds) ρ1) n1 ∧ GMadeD X.prog X.w X.K X.mg X.base k X.stack sc Hs1 (FG ds) u s1) X.xe s := by
    refine wpAny_Call_Name_kw (ld_glob I hg hm ?_ hdb)
    refine PySem.W.callWith_K (h₀ := X.base) I.ok.mod.kin hkp (thn (ha.pa.run pos pins s σ H (fun vs H1 => ∃ (Hs1 : Hp) (ρ1 : DEnv) (n1 : Nat) (ds : List PyData), DRel c ρ1 n1 σ Hs1 H1 ∧ Same Hs Hs1 ∧ DqAll Hs1 vs ds ∧ PG ds ∧ ρ1[j]? = some (.own (.lst [])) ∧ (EndsD.lift c Hs D).nx (appEnd i j [] (FG ds) ρ1) n1) I
      ⟨c, ρ, n0, Hs, d, ha.mono _ _ _ _ (fun rs ρ1 n1 q vs Hs1 H1 d1 R1 E1 _ _ => ?_) hq⟩) fun us s1 ⟨vs, H1, I1, r, Hs1, ρ1, n1, ds, d1, S1, q1, q2, q3, q4⟩ => ⟨I1.kIn, ?_⟩) he hpl
    · split at q
      · rename_i ds hds
        rw [datsOf_eq hds] at R1
        exact ⟨Hs1, ρ1, n1, ds, d1, E1.sh, dats_q R1, q.1, q.2.1, q.2.2⟩
      · exact q.elim
    · refine wpAny_call (codeAny_mono (F.run X.A X.stack s1 H1 Hs1 ⟨us, []⟩ us vs ds (hr.mono (Nat.le_succ _)) I1.env0 (by have := hb s1 us I1.kIn (by rw [List.append_nil, ← r.length, dpAll_len q1]; exact F.len _ q2); rw [List.append_nil] at this; exact this) r q1 q2) fun rr s' hq => ?_)
      cases rr with
      | error e => exact False.elim hq
      | ok fl =>
        cases fl with
        | ret u => exact ⟨s1, H1, Hs1, ρ1, n1, ds, I1, d1, S1, q2, q3, q4, hq⟩
        | next => exact False.elim hq
        | brk => exact False.elim hq
        | cont => exact False.elim hq
  refine wpAny_For (thn first fun v s1 h1 => ?_) hfs
  obtain ⟨sc, H1, Hs1, ρ1, n1, ds, I1, d1, S1, hPG, hown, hend, a, g, cc, o, rfl, ha1, ha2, hgen, hgs, hos, hba, hlim, hkeep, hfo, wake⟩ := h1
  refine wpAny_pyIter_gen hgen ?_
  have hL : X.env.locals < sc.heap.objs.size := I1.lt
  have hn0 : X.s_0.heap.objs.size ≤ sc.heap.objs.size := I1.sz
  have hcl : ∀ x c, X.env.cells.lookup x = some c → c < sc.heap.objs.size := fun x c e => let ⟨_, q⟩ := I1.cell x c e; q.lt
  have hpn : ∀ p ∈ X.pn ++ pins, p.1 < sc.heap.objs.size := fun p hp => Heap.lt_size (I1.pin p hp).1
  have frn : ∀ b ∈ frs X.stack, b < sc.heap.objs.size := fun b hb => by
    rcases List.mem_cons.mp (I1.stkSub b hb) with z | z
    · rw [z]; exact hL
    · rcases Nat.lt_or_ge b sc.heap.objs.size with q | q
      · exact q
      · exact absurd z (I1.nofs q)
  have hbn : X.base.objs.size ≤ sc.heap.objs.size := Nat.le_trans I.ok.bsz hn0
  have room : Room k X.A.in1 := ⟨hr.hd, by have := hr.dp; show X.A.depth + 3 * k + 5 < _; omega, by have := hr.un; show X.A.units + 1 + 16 * k + 200 < _; omega⟩
  have keptG : ∀ {σ' : L2.St} {H' : Hp} {s' : Shared} (gs : GenState), gs.bare = true → Inv X pins σ' H' s' → Inv X pins σ' H' (s'.setGen g gs) := fun {σ' H' s'} gs hb I' =>
    I'.call' (s' := s'.setGen g gs) (ch := []) rfl Un.refl I'.hok (allBare_setGen I'.bare hb) fun b z => by simp at z
  let C : CEV := fun ys s' H' Hs' => ∃ σ', Inv X pins σ' H' s' ∧ DRel c (appEnd i j [] ys ρ1) n1 σ' Hs' H' ∧ Same Hs1 Hs' ∧ s'.heap.IsGen a g ∧ H' a = none
  have Ha : H1 a = none := I1.hok.fresh (Nat.le_of_lt ha1)
  have J1 : Inv X pins σ H1 s1 := I1.call' (ch := []) hos (Un.kept hkeep) (I1.hok.kept hkeep) hba fun b z => by simp at z
  have J2 : Inv X pins σ H1 (s1.setGen g .running) := keptG _ rfl J1
  have W1 : Woke X.prog X.w X.K X.mg X.base X.A.in1 X.stack sc.heap.objs.size [a] [(sc.heap.objs.size, o)] (s1.setGen g .running) H1 Hs1 := by
    refine ⟨J2.env0.in1, Nat.le_of_lt (Nat.lt_trans ha1 ha2), hbn, frn, fun p hp => ?_, fun b hb => ?_, d1.sub⟩
    · rw [List.mem_singleton.mp hp]
      exact ⟨hfo, I1.hok.fresh (Nat.le_refl _)⟩
    · rw [List.mem_singleton.mp hb]
      exact ⟨ha1, Ha, isGen_at hgen⟩
  have goes0 : (GenState.fresh cc).Goes (model X.prog X.w) X.A.in1 (GRd X.prog X.w X.stack sc.heap.objs.size [a] C fun ys => ys = FG ds) (GYd X.prog X.w X.K X.mg X.base X.A.in1 X.stack sc.heap.objs.size [a] C) sizeLine (.send .none) (s1.setGen g .running) :=
    ⟨rfl, wake X.A.in1 C [a] (s1.setGen g .running) H1 Hs1 room ⟨σ, J2, d1, fun _ _ h => h, hgen, Ha⟩ W1 fun _ _ h => h⟩
  refine codeAny_forLoop_any (fun m s' => ∃ gs, s'.gens[g]? = some gs ∧ s'.heap.IsGen a g ∧ s'.heap.NoLimit ∧ gs.Goes (model X.prog X.w) X.A.in1 (GRd X.prog X.w X.stack sc.heap.objs.size [a] C fun ys => ys = FG ds) (GYd X.prog X.w X.K X.mg X.base X.A.in1 X.stack sc.heap.objs.size [a] C) m (.send .none) (s'.setGen g .running)) ?_ sizeLine ⟨_, hgs, hgen, hlim, goes0⟩
  rintro m s2 ⟨gs, hgs2, hgen2, hlim2, hgo⟩
  have hgl : g < s2.gens.size := (Array.getElem?_eq_some_iff.mp hgs2).1
  have hd : X.A.depth < recursionLimit := by have := hr.dp; omega
  refine wpAny_gsz (n := g + 1) hgl (next_genG (A := X.A) (F := GFd X.prog X.w X.stack sc.heap.objs.size [a] C fun ys => ys = FG ds) (Er := fun _ _ => False) hh hlim2 hd hgen2 hgs2 hgo (fun v s₁ gs' hbare hv => ?_) (fun s₁ hp h' hk => ?_) fun e s₁ he => he.elim)
  · intro hsz
    obtain ⟨ys, dd, xv, Hw, Hsw, H2, Hs2, gp, ⟨σ2, I2, d2, S2, hg2, ha2'⟩, R, rv, hx, hm', hgp, hwake⟩ := hv
    have I3 : Inv X pins σ2 H2 s₁ := R.inv I2 hn0 hL hcl hpn
    have d3 := d2.after R.sub R.base R.fix R.old
    have I4 := keptG gs' hbare I3
    have hg3 : s₁.heap.IsGen a g := isGen_of hg2 fun o e => (R.gm a (List.mem_singleton.mpr rfl)).2 o e
    have ha3 : H2 a = none := (R.gm a (List.mem_singleton.mpr rfl)).1
    have hgl1 : g < s₁.gens.size := by
      have q : (s₁.setGen g gs').gens.size = s₁.gens.size := setGen_size _ _ _
      have hsz' : g + 1 ≤ (s₁.setGen g gs').gens.size := hsz
      omega
    have go1 : ∀ {Q : Unit → Shared → Prop} {E : Value → Shared → Prop} {st : Shared}, Q () st → wpAny (model X.prog X.w) X.A (letOwnedTupleGo (.Name x npos) (.ref a) v) Q E st := fun {Q E st} h => by
      unfold letOwnedTupleGo
      exact wpAny_pure h
    refine go1 ?_
    refine wpAny_assign_Name (st_var I4 nd hi hk rv fun h' tk I5 sb => ?_)
    have d5 := DRel.setSlot i d3 (show RRel c (appEnd i j [] ys ρ1) σ2 Hs2 H2 (.dat dd) xv from hx) (fun _ h => by cases h)
    have hown5 : ((appEnd i j [] ys ρ1).set i (slOf (.dat dd)))[j]? = some (.own (.lst ys)) := by
      rw [List.getElem?_set_ne hij]
      exact appEnd_own ys [] hown
    obtain ⟨ds0, l, vs0, g0, g1, g2, g3⟩ := isOwnL_at (i := j) d5 (by rw [hown5]; trivial)
    rw [hown5] at g0; cases g0
    have hiσ : i < σ2.length := by rw [I3.len]; exact (List.getElem?_eq_some_iff.mp hi).1
    refine wpAny_execs_cons (app_run I5 hj hvj g1 hi (.inl hk) (List.getElem?_set_self hiσ) g2 (by rw [dpAll_len g3]; omega) (fun h'' tk' I6 sb' => ?_) hdy hcdy hdx hcdx hbase hfew hline hs hplain hsw)
    refine wpAny_execs_nil ?_
    have d6 := DRel.writeSlot d5 hown5 g1 (o' := .lst (ys ++ [dd])) (ho := .lst (vs0 ++ [xv])) (dpAll_app g3 (.cons hx .nil))
    have nl : ∀ b, H2 b = none → b ≠ l := fun b h z => by rw [z, g2] at h; cases h
    have hla : a ≠ l := nl a ha3
    have hup : ∀ b ob, b ≠ X.env.locals → b ≠ l → s₁.heap.get? b = some ob → h''.get? b = some ob := fun b ob q1 q2 e => (sb' b q2).trans ((sb.2 b q1).trans e)
    have hg6 : h''.IsGen a g := isGen_of hg3 fun ob e => hup a ob (Nat.ne_of_gt (Nat.lt_trans hL ha1)) hla e
    have I7 := keptG .running rfl I6
    have hH6 : ∀ b, H2 b = none → upd H2 l (.lst (vs0 ++ [xv])) b = none := fun b h => by rw [upd_ne (nl b h)]; exact h
    have fin := hwake (Shared.setGen { s₁.setGen g gs' with heap := h'', toks := tk' } g .running) (upd H2 l (.lst (vs0 ++ [xv]))) Hs2
      ⟨I7.env0.in1, Nat.le_trans (Nat.le_of_lt ha1) (Nat.le_of_lt (let ⟨_, _, _, e, _⟩ := hg6; Heap.lt_size e)), hbn, frn, fun p hp => by
        obtain ⟨q1, q2, q3, q4⟩ := hgp p hp
        exact ⟨hup p.1 p.2 (Nat.ne_of_gt (Nat.lt_of_lt_of_le hL q3)) (nl _ q2) q1, hH6 _ q2⟩, fun b hb => by
        rw [List.mem_singleton.mp hb]
        exact ⟨ha1, hH6 _ ha3, isGen_at hg6⟩, d6.sub⟩ (fun _ _ h => h) ⟨_, I7, by rw [appEnd_snoc]; exact d6, S2.trans R.base, hg6, hH6 _ ha3⟩
    cases m with
    | zero => exact fin.elim
    | succ m => exact ⟨m, Nat.lt_succ_self _, gs', setGen_at hgl1, hg6, I6.nolimit, fin⟩
  · intro hsz
    obtain ⟨ys, Hw, Hsw, H2, Hs2, ⟨σ2, I2, d2, S2, hg2, ha2'⟩, R, hm', rfl⟩ := hp
    have I3 : Inv X pins σ2 H2 s₁ := R.inv I2 hn0 hL hcl hpn
    have d3 := d2.after R.sub R.base R.fix R.old
    refine wpAny_execs_nil ⟨σ2, H2, ?_, hend σ2 Hs2 H2 d3 (S1.trans (S2.trans R.base))⟩
    exact I3.call' (ch := []) rfl (Un.kept hk) (I3.hok.kept hk) (allBare_setGen R.bare rfl) fun b z => by simp at z
end
end DL

/-! list(g(..)) -/
namespace DL
open PySem PySem.Spec PyProof.Rows L2 GenW GnR
section
variable {P : Program} {w : World} {K : PySem.W.Frag} {mg : Str → Option Value} {base : Heap} {A : Around} {outer : List PySem.Env} {n : Nat} {s s' s₀ sc : Shared} {H H1 Hw : Hp}
theorem frames_of {h h' base : Heap} : ∀ {l : List PySem.Env}, (∀ b ∈ frs l, ∀ o, h.get? b = some o → ∃ sl, h'.get? b = some { o with slots := sl }) → h.FunFrames base l → h'.FunFrames base l
  | [], _, _ => trivial
  | env :: r, k, hl => by
    obtain ⟨hk, ⟨L, o, hf, hn, ho, hd⟩, hr⟩ := hl
    obtain ⟨sl, e⟩ := k L (by unfold frs; rw [List.filterMap_cons, hf]; exact List.mem_cons_self) o ho
    exact ⟨hk, ⟨L, _, hf, hn, e, hd⟩, frames_of (fun b z => k b (by unfold frs; rw [List.filterMap_cons, hf]; exact List.mem_cons_of_mem _ z)) hr⟩
theorem env0_nofr (e : Env0 P w K mg base A outer s H) {b : Addr} {o : Obj} (q : base.get? b = some o) : b ∉ frs outer := fun hb => by
  have := (e.funs.mem hb).1
  rw [q] at this; cases this
/-- on a heap that keeps all -/
theorem env0_kept {A' : Around} (e : Env0 P w K mg base A outer s H) (hf : A'.frames = some outer) (k : ∀ b o, s.heap.get? b = some o → s'.heap.get? b = some o) (hsz : s.heap.objs.size ≤ s'.heap.objs.size) (hb : AllBare s'.gens) : Env0 P w K mg base A' outer s' H :=
  ⟨hf, e.mod, fun b o q => ⟨k b o (e.bs b o q).1, (e.bs b o q).2⟩, Nat.le_trans e.bsz hsz, frames_of (fun b _ o q => ⟨o.slots, k b o q⟩) e.funs, e.frf, e.hok.kept k, hb⟩
/-- behind a turn of the generator -/
theorem env0_ran {gm : List Addr} {Hsw Hs : Hp} (e : Env0 P w K mg base A outer s₀ Hw) (bn : base.objs.size ≤ n) (frn : ∀ b ∈ frs outer, b < n) (R : Ran P w outer n gm s₀ Hw Hsw s H Hs) : Env0 P w K mg base A outer s H := by
  refine ⟨e.frames, e.mod, fun b o q => ?_, Nat.le_trans bn R.lt, frames_of (fun b hb o q => R.un.slot b o (get_cut (frn b hb) q) (e.frf b hb) hb (by simp)) e.funs, fun b hb => ?_, R.hok, R.bare⟩
  · have hb : b < n := Nat.lt_of_lt_of_le (Heap.lt_size q) bn
    obtain ⟨q1, q2⟩ := e.bs b o q
    exact ⟨R.un.keep b o (get_cut hb q1) q2 (env0_nofr e q) (by simp), R.un.free b o (get_cut hb q1) q2 (by simp)⟩
  · obtain ⟨_, o, q, _⟩ := e.funs.mem hb
    exact R.un.free b o (get_cut (frn b hb) q) (e.frf b hb) (by simp)
/-- while it sleeps the list alone grows -/
theorem env0_slept {S : Addr} {v : Value} (e : Env0 P w K mg base A outer s H) (bn : base.objs.size ≤ S) (frn : ∀ b ∈ frs outer, b < S) (hS : H S = none) (heS : ∃ acc c, s.heap.get? S = some (lstObj acc c)) (z : Slept S v s s') : Env0 P w K mg base A outer s' H := by
  refine ⟨e.frames, e.mod, fun b o q => ?_, ?_, frames_of (fun b hb o q => ⟨o.slots, z.keep b o (Nat.ne_of_lt (frn b hb)) q⟩) e.funs, e.frf, fun b o q => ?_, z.bare⟩
  · obtain ⟨q1, q2⟩ := e.bs b o q
    exact ⟨z.keep b o (Nat.ne_of_lt (Nat.lt_of_lt_of_le (Heap.lt_size q) bn)) q1, q2⟩
  · obtain ⟨acc, c, e1⟩ := heS
    obtain ⟨c', e2⟩ := z.own acc c e1
    exact Nat.le_of_lt (Nat.lt_of_le_of_lt bn (Heap.lt_size e2))
  · have hb : b ≠ S := fun z => by rw [z, hS] at q; cases q
    refine (e.hok b o q).stay (fun c v hc y => z.keep c v ?_ y) (fun _ y => y) fun _ _ y => y
    rcases hc with y | y
    · rw [y]; exact hb
    · exact fun z => by rw [z, hS] at y; cases y
end

theorem un_cut {fs : List Addr} {H1 Hw H : Hp} {hc h0 h : Heap} {n : Nat} (hn : hc.objs.size = n) (a : Un fs [] H1 Hw hc h0) (b : Un fs [] Hw H (cutH n h0) h) : Un fs [] H1 H hc h := by
  have lt : ∀ {b o}, hc.get? b = some o → b < n := fun {b o} e => hn ▸ Heap.lt_size e
  refine Un.trans (h1 := cutH n h0) ⟨fun b o e q1 q2 q3 => get_cut (lt e) (a.keep b o e q1 q2 q3), fun b o e q1 q2 q3 => ?_, a.free, fun b o e q => ?_, a.tups, a.frzs, a.tbls⟩ b
  · obtain ⟨sl, e1⟩ := a.slot b o e q1 q2 q3
    exact ⟨sl, get_cut (lt e) e1⟩
  · obtain ⟨o', e1⟩ := a.there b o e q
    exact ⟨o', get_cut (lt e) e1⟩
/-- as the hand layer wants it -/
theorem GMadeD.made {P : Program} {w : World} {K : PySem.W.Frag} {mg : Str → Option Value} {base : Heap} {k : Nat} {outer : List PySem.Env} {sc s1 : Shared} {H1 Hs1 : Hp} {out : List PyData} {u : Value} {A0 : Around} {Q : List V → Hp → Prop}
    (e0 : Env0 P w K mg base A0 outer sc H1) (sub1 : Same Hs1 H1) (frn : ∀ b ∈ frs outer, b < sc.heap.objs.size) (h : GMadeD P w K mg base k outer sc Hs1 out u s1)
    (hQ : ∀ vs H' Hs', DqAll Hs' vs out → Same Hs' H' → Same Hs1 Hs' → (∀ p, H1 p ≠ none → Hs' p = Hs1 p) → (∀ p o, H1 p = some o → H' p = some o) → Q vs H') : GMade P w k outer H1 sc [] Q (fun _ _ _ => False) u s1 := by
  obtain ⟨a, g, c, o, rfl, ha1, ha2, hgen, hgs, hos, hba, hlim, hkeep, hfo, wake⟩ := h
  refine ⟨a, g, c, rfl, Nat.le_of_lt ha1, ha2, hgen, hgs, hos, hba, hlim, hkeep, fun A S s2 hr hfr hS hk2 hSo hos2 hba2 => ?_⟩
  have haS : a < S := Nat.lt_of_lt_of_le ha2 hS
  have hnS : sc.heap.objs.size < S := Nat.lt_trans ha1 haS
  have Ha : H1 a = none := e0.hok.fresh (Nat.le_of_lt ha1)
  have HS : H1 S = none := e0.hok.fresh (Nat.le_of_lt hnS)
  have k2 : ∀ b o, sc.heap.get? b = some o → s2.heap.get? b = some o := fun b o e => hk2 b o (hkeep b o e)
  have hgen2 : s2.heap.IsGen a g := isGen_of hgen fun o e => hk2 a o e
  obtain ⟨cS, heS⟩ := hSo
  have sz2 : sc.heap.objs.size ≤ s2.heap.objs.size := Nat.le_of_lt (Nat.lt_trans hnS (Heap.lt_size heS))
  have E2 : Env0 P w K mg base A outer s2 H1 := env0_kept e0 hfr k2 sz2 hba2
  let C : CEV := fun ys s' H' Hs' => ∃ vs acc cn, s'.heap.get? S = some (lstObj acc cn) ∧ Vals vs acc.toList ∧ DqAll Hs' vs ys ∧ s'.os = sc.os ∧ Un (frs outer) [] H1 H' sc.heap s'.heap ∧ H' S = none ∧ H' a = none ∧ s'.heap.IsGen a g ∧ Env0 P w K mg base A outer s' H' ∧ Same Hs' H' ∧ Same Hs1 Hs' ∧ (∀ p, H1 p ≠ none → Hs' p = Hs1 p) ∧ (∀ p o, H1 p = some o → H' p = some o)
  have C0 : C [] s2 H1 Hs1 := ⟨[], #[], cS, heS, .nil, .nil, hos2, Un.kept k2, HS, Ha, hgen2, E2, sub1, fun _ _ h => h, fun _ _ => rfl, fun _ _ h => h⟩
  have gmS : ∀ {b : Addr}, b ∈ [a, S] → b = a ∨ b = S := fun {b} hb => by
    rcases List.mem_cons.mp hb with z | z
    · exact .inl z
    · exact .inr (List.mem_singleton.mp z)
  have W2 : Woke P w K mg base A outer sc.heap.objs.size [a, S] [(sc.heap.objs.size, o)] s2 H1 Hs1 := by
    refine ⟨E2, sz2, e0.bsz, frn, fun p hp => ?_, fun b hb => ?_, sub1⟩
    · rw [List.mem_singleton.mp hp]
      exact ⟨hk2 _ _ hfo, e0.hok.fresh (Nat.le_refl _)⟩
    · rcases gmS hb with z | z
      · rw [z]; exact ⟨ha1, Ha, isGen_at hgen2⟩
      · rw [z]; exact ⟨hnS, HS, _, heS, fun v q => by cases q⟩
  refine seg_imp (fun m s₀ r s' hR => ?_) (fun m s₀ v s' kap kap' hkk hY => ?_) sizeLine (wake A C [a, S] s2 H1 Hs1 hr C0 W2 fun _ _ h => h)
  · rcases hR with ⟨hr1, ys, Hw, Hsw, H', Hs', hC, R, hm, rfl⟩ | ⟨e, _, h⟩
    · obtain ⟨vs, acc, cn, c1, c2, c3, c4, c5, c6, c7, c8, c9, c10, c11, c12, c13⟩ := hC
      have rS := R.gm S (by simp)
      have hfix : ∀ p, H1 p ≠ none → Hs' p = Hs1 p := fun p hp => by
        rw [R.fix p ?_, c12 p hp]
        intro z
        obtain ⟨q, hq⟩ := Option.ne_none_iff_exists'.mp hp
        rw [c13 p q hq] at z; cases z
      refine .inl ⟨hr1, H', vs, acc, cn, R.os.trans c4, R.bare, un_cut rfl c5 R.un, R.hok, rS.1, rS.2 _ c1, c2, ?_, hQ vs H' Hs' (dpAll_mono R.base c3) R.sub (c11.trans R.base) hfix fun p o h => R.old _ _ (c13 p o h)⟩
      rw [dpAll_len c3]; omega
    · exact h.elim
  · obtain ⟨ys, d, x, Hw, Hsw, H', Hs', gp, hC, R, rv, hx, hm, hgp, hwake⟩ := hY
    obtain ⟨vs, acc, cn, c1, c2, c3, c4, c5, c6, c7, c8, c9, c10, c11, c12, c13⟩ := hC
    have rS := R.gm S (by simp)
    have ra := R.gm a (by simp)
    have hfix : ∀ p, H1 p ≠ none → Hs' p = Hs1 p := fun p hp => by
      rw [R.fix p ?_, c12 p hp]
      intro z
      obtain ⟨q, hq⟩ := Option.ne_none_iff_exists'.mp hp
      rw [c13 p q hq] at z; cases z
    have hga : s'.heap.IsGen a g := isGen_of c8 fun o e => ra.2 o e
    have hsz : acc.size = ys.length := by
      have e1 := c2.length
      have e2 : acc.toList.length = acc.size := by simp
      rw [dpAll_len c3] at e1
      omega
    refine ⟨R.os.trans c4, R.bare, R.nol, hga, ⟨acc, cn, rS.2 _ c1, by rw [hsz]; exact hm⟩, fun s3 z => hkk _ _ ?_⟩
    have E3 := env0_ran c9 e0.bsz frn R
    have un := un_cut rfl c5 R.un
    have E4 := env0_slept E3 (Nat.le_trans e0.bsz (Nat.le_of_lt hnS)) (fun b hb => Nat.lt_trans (frn b hb) hnS) rS.1 ⟨acc, cn, rS.2 _ c1⟩ z
    obtain ⟨cn', eS'⟩ := z.own acc cn (rS.2 _ c1)
    have hga3 : s3.heap.IsGen a g := isGen_of hga fun o e => z.keep a o (Nat.ne_of_lt haS) e
    have ltS : ∀ {b o}, sc.heap.get? b = some o → b ≠ S := fun {b o} e => Nat.ne_of_lt (Nat.lt_trans (Heap.lt_size e) hnS)
    refine hwake s3 H' Hs' ⟨E4, Nat.le_trans (Nat.le_of_lt hnS) (Nat.le_of_lt (Heap.lt_size eS')), e0.bsz, frn, fun p hp => ?_, fun b hb => ?_, R.sub⟩ (fun _ _ h => h) ⟨vs ++ [x], acc.push v, cn', eS', ?_, dpAll_app (dpAll_mono R.base c3) (.cons hx .nil), z.os.trans (R.os.trans c4), ?_, rS.1, ra.1, hga3, E4, R.sub, c11.trans R.base, hfix, fun p o h => R.old _ _ (c13 p o h)⟩
    · obtain ⟨q1, q2, q3, q4⟩ := hgp p hp
      exact ⟨z.keep _ _ (fun z => q4 (by rw [z]; simp)) q1, q2⟩
    · rcases gmS hb with z' | z'
      · rw [z']; exact ⟨ha1, ra.1, isGen_at hga3⟩
      · rw [z']; exact ⟨hnS, rS.1, _, eS', fun v q => by cases q⟩
    · rw [Array.toList_push]
      exact c2.append (.cons rv .nil)
    · refine ⟨fun b o e q1 q2 q3 => z.keep b o (ltS e) (un.keep b o e q1 q2 q3), fun b o e q1 q2 q3 => ?_, un.free, fun b o e q => ?_, un.tups, un.frzs, un.tbls⟩
      · obtain ⟨sl, e1⟩ := un.slot b o e q1 q2 q3
        exact ⟨sl, z.keep b _ (ltS e) e1⟩
      · obtain ⟨o', e1⟩ := un.there b o e q
        exact ⟨o', z.keep b _ (ltS e) e1⟩

/-- list(g(..)) -/
def dListG (PG : List PyData → Prop) (FG : List PyData → List PyData) (t : TAD) : TD := fun ρ n Q => t ρ n fun rs ρ1 n1 => match datsOf rs with
  | some ds => PG ds ∧ Q (.own (.lst (FG ds))) ρ1 n1
  | none => False
section
variable {X : Cx} {xf : Str} {p p2 pos pos2 : Pos} {e : Expr} {es : List Expr} {t : TAD} {k : Nat} {ps : List Str} {PG : List PyData → Prop} {FG : List PyData → List PyData}
def tGD (PG : List PyData → Prop) (FG : List PyData → List PyData) (t : TAD) : TGen := fun σ H cont => ∃ c ρ n Hs, DRel c ρ n σ Hs H ∧ t ρ n fun rs ρ1 n1 => match datsOf rs with
  | some ds => PG ds ∧ ∀ Hs1 H1 vs H' Hs', DRel c ρ1 n1 σ Hs1 H1 → Ext c σ ρ Hs H ρ1 Hs1 H1 → DqAll Hs' vs (FG ds) → Same Hs' H' → Same Hs1 Hs' → (∀ p, H1 p ≠ none → Hs' p = Hs1 p) → (∀ p o, H1 p = some o → H' p = some o) → cont vs H'
  | none => False
theorem frs_lt {X : Cx} {pins : List (Addr × Obj)} {σ : L2.St} {H : Hp} {s : Shared} (I : Inv X pins σ H s) : ∀ b ∈ frs X.stack, b < s.heap.objs.size := fun b hb => by
  rcases List.mem_cons.mp (I.stkSub b hb) with z | z
  · rw [z]; exact I.lt
  · rcases Nat.lt_or_ge b s.heap.objs.size with q | q
    · exact q
    · exact absurd z (I.nofs q)
theorem pgen_d (G : CalG X.prog X.w X.K X.mg X.base xf ps k PG FG) (hr : Room k X.A) (ha : FA X (e :: es) t)
    (hg : Gl X xf) (hdb : (xf == ("__debug__" : Str)) = false) (he : starEach (e :: es) X.env = (false, eval e X.env) :: starEach es X.env) (hpl : (backTo pos (starEach es X.env)).any (·.1) = false) :
    PGen X k (.Call (.Name xf p) (e :: es) [] pos) (tGD PG FG t) (fun _ _ _ => False) := by
  obtain ⟨f, fd, F, hm, hkp, hb⟩ := G.ex
  refine ⟨fun pins s σ H cont I h => ?_⟩
  obtain ⟨c, ρ, n0, Hs, d, hq⟩ := h
  refine wpAny_Call_Name_kw (ld_glob I hg hm ?_ hdb)
  refine PySem.W.callWith_K (h₀ := X.base) I.ok.mod.kin hkp (thn (ha.pa.run pos pins s σ H (fun vs H1 => ∃ (Hs1 : Hp) (ρ1 : DEnv) (n1 : Nat) (ds : List PyData), DRel c ρ1 n1 σ Hs1 H1 ∧ DqAll Hs1 vs ds ∧ PG ds ∧ (∀ vs H' Hs', DqAll Hs' vs (FG ds) → Same Hs' H' → Same Hs1 Hs' → (∀ p, H1 p ≠ none → Hs' p = Hs1 p) → (∀ p o, H1 p = some o → H' p = some o) → cont vs H')) I
    ⟨c, ρ, n0, Hs, d, ha.mono _ _ _ _ (fun rs ρ1 n1 q vs Hs1 H1 d1 R1 E1 _ _ => ?_) hq⟩) fun us s1 ⟨vs, H1, I1, r, Hs1, ρ1, n1, ds, d1, q1, q2, q3⟩ => ⟨I1.kIn, ?_⟩) he hpl
  · split at q
    · rename_i ds hds
      rw [datsOf_eq hds] at R1
      exact ⟨Hs1, ρ1, n1, ds, d1, dats_q R1, q.1, fun vs H' Hs' => q.2 Hs1 H1 vs H' Hs' d1 E1⟩
    · exact q.elim
  · refine wpAny_call (codeAny_mono (F.run X.A X.stack s1 H1 Hs1 ⟨us, []⟩ us vs ds hr I1.env0 (by have := hb s1 us I1.kIn (by rw [List.append_nil, ← r.length, dpAll_len q1]; exact F.len _ q2); rw [List.append_nil] at this; exact this) r q1 q2) fun rr s' hq => ?_)
    cases rr with
    | error e => exact False.elim hq
    | ok fl =>
      cases fl with
      | ret u => exact ⟨H1, s1, [], I1, .nil, hq.made I1.env0 d1.sub (frs_lt I1) q3⟩
      | next => exact False.elim hq
      | brk => exact False.elim hq
      | cont => exact False.elim hq
theorem fe_listG {nm : Str} (G : CalG X.prog X.w X.K X.mg X.base xf ps k PG FG) (hr : Room (k + 3) X.A) (hmg : X.mg nm = none) (ha : FA X (e :: es) t) (hv : bootBuiltins nm = some (.type "list") := by first | rfl | decide +kernel) (hg2 : Gl X nm := by rfl)
    (hg : Gl X xf := by rfl) (hdb : (xf == ("__debug__" : Str)) = false := by decide) (he : starEach (e :: es) X.env = (false, eval e X.env) :: starEach es X.env := by rfl) (hpl : (backTo pos (starEach es X.env)).any (·.1) = false := by rfl)
    (hnm : nm ≠ "__name__" := by decide) (hdb2 : (nm == ("__debug__" : Str)) = false := by decide) (he2 : starEach [.Call (.Name xf p) (e :: es) [] pos] X.env = (false, eval (.Call (.Name xf p) (e :: es) [] pos) X.env) :: starEach [] X.env := by rfl) :
    FE X (.Call (.Name nm p2) [.Call (.Name xf p) (e :: es) [] pos] [] pos2) (dListG PG FG t) := by
  refine ⟨fun ρ n Q Q' m h => ha.mono _ _ _ _ (fun rs ρ' n' q => ?_) h, pe_weak (pe_listG (pgen_d G (hr.mono (by omega)) ha hg hdb he hpl) (fun pins σ H s e s' I c => by obtain ⟨_, _, _, _, _, _, _, _, _, _, _, _, hW⟩ := c; exact hW.elim) (fun cls d H h => h.elim) hr hg2 hmg hv hnm hdb2 he2) ?_⟩
  · revert q
    split
    · exact fun ⟨q1, q2⟩ => ⟨q1, m _ _ _ q2⟩
    · exact id
  · rintro σ H Q ⟨c, ρ, n, Hs, d, q⟩
    refine ⟨c, ρ, n, Hs, d, ha.mono _ _ _ _ (fun rs ρ1 n1 q => ?_) q⟩
    revert q
    split
    · rename_i ds hds
      refine fun ⟨q1, q2⟩ => ⟨q1, fun Hs1 H1 vs H' Hs' d1 E1 hv sub base fix old p hp => ?_⟩
      have d2 := d1.after sub base fix old
      obtain ⟨d3, E3, o1, o2, o3, o4⟩ := d2.newOwn (o := .lst vs) hp
      have E2 : Ext c σ ρ1 Hs1 H1 ρ1 Hs' H' := ⟨base, fun p o _ h => old p o h, fun p h1 h2 _ => by rw [fix p h1]; exact h2, fun _ h => h⟩
      refine q2 _ _ _ d3 ⟨p, rfl, ⟨_, upd_same, hv, o1, o2, o3⟩, o4⟩ ((E1.trans d1 E2).trans d2 E3) fun a ha => ?_
      cases ha
      refine Classical.byContradiction fun z => ?_
      obtain ⟨q, hq⟩ := Option.ne_none_iff_exists'.mp (E1.dom d1 z)
      rw [old _ _ hq] at hp; cases hp
    · exact id
end

theorem gForGo_inv {g : TGD} {tb : TGS} {D : GEndsD} (I : List PyData → List PyData → DEnv → Prop) (hnil : ∀ ys ρ, I [] ys ρ → D.nx ys ρ)
    (hcons : ∀ d r ys ρ (k : List PyData → DEnv → Prop), I (d :: r) ys ρ → (∀ ys' ρ', I r ys' ρ' → k ys' ρ') → g d ρ fun ρ' => tb { nx := k, bk := D.nx, ct := k } ys ρ') :
    ∀ {ds ys : List PyData} {ρ : DEnv}, I ds ys ρ → gForGo g tb D ds ys ρ
  | [], ys, ρ, h => hnil ys ρ h
  | d :: r, ys, ρ, h => hcons d r ys ρ (fun ys' ρ'' => gForGo g tb D r ys' ρ'') h fun ys' ρ' h' => gForGo_inv I hnil hcons h'
theorem small60 {n : Nat} (h : n ≤ 1000) : n < sizeLine := Nat.lt_of_le_of_lt h (by decide)
theorem appEnd_sets {i j : Nat} (hij : i ≠ j) (x y : Sl) : ∀ (ys acc : List PyData) (ρ : DEnv), ((appEnd i j acc ys ρ).set i x).set j y = (ρ.set i x).set j y
  | [], _, _ => rfl
  | d :: ys, acc, ρ => by
    show ((appEnd i j (acc ++ [d]) ys _).set i x).set j y = _
    rw [appEnd_sets hij x y ys]
    refine List.ext_getElem? fun k => ?_
    simp only [List.getElem?_set, List.length_set]
    by_cases h1 : j = k
    · simp [h1]
    · by_cases h2 : i = k
      · simp [h1, h2]
      · simp [h1, h2]
theorem appEnd_ne {i j : Nat} (hij : i ≠ j) {out : List PyData} {ρ : DEnv} (h : out ≠ []) : ∃ d, appEnd i j [] out ρ = (ρ.set i (.dat d)).set j (.own (.lst out)) := by
  refine ⟨out.getLast h, ?_⟩
  have e : out = out.dropLast ++ [out.getLast h] := (List.dropLast_concat_getLast h).symm
  have h1 := appEnd_snoc (i := i) (j := j) (d := out.getLast h) (ys := out.dropLast) (acc := []) (ρ := ρ)
  rw [← e, List.nil_append] at h1
  rw [h1, appEnd_sets hij]
theorem appEnd_go {i j : Nat} {out : List PyData} {ρ : DEnv} (P : DEnv → Prop) (hij : i ≠ j) (h : out ≠ []) (hp : ∀ d, P ((ρ.set i (.dat d)).set j (.own (.lst out)))) : P (appEnd i j [] out ρ) := by
  obtain ⟨d, e⟩ := appEnd_ne (ρ := ρ) hij h
  rw [e]; exact hp d
end DL

namespace K
/-! ### the watch -/
structure W4 where
  c : Bool
  lo : Int
  hi : Int
  ct : Int
def stepW (s : W4) (h t : Int) : W4 :=
  if s.c then (if h < s.hi - t then ⟨false, h, h, s.ct + s.hi - s.lo⟩ else ⟨true, s.lo, if h > s.hi then h else s.hi, s.ct⟩)
  else
    let lo := if h < s.lo then h else s.lo
    ⟨decide (lo + t < h), lo, h, s.ct⟩
def shownW (s : W4) : Int := if s.c then s.ct + s.hi - s.lo else s.ct
def scanW {α β : Type} (f : β → α → β) : β → List α → List β
  | s, [] => [s]
  | s, x :: r => s :: scanW f (f s x) r
def statesW (ns : List Int) (t : Int) : List W4 := match ns with
  | [] => []
  | h :: r => scanW (fun s x => stepW s x t) ⟨false, h, h, 0⟩ r
def ascW (ns : List Int) (t : Int) : Int := match (statesW ns t).getLast? with
  | some s => shownW s
  | none => 0
theorem scanW_ne {α β : Type} (f : β → α → β) (s : β) (l : List α) : scanW f s l ≠ [] := by
  cases l <;> simp [scanW]
theorem scanW_last {α β : Type} (f : β → α → β) : ∀ (s : β) (l : List α), (scanW f s l).getLast? = some (l.foldl f s)
  | s, [] => rfl
  | s, x :: r => by
    show (s :: scanW f (f s x) r).getLast? = _
    rw [List.getLast?_cons, scanW_last f (f s x) r]
    rfl
theorem scanW_len {α β : Type} (f : β → α → β) : ∀ (s : β) (l : List α), (scanW f s l).length = l.length + 1
  | s, [] => rfl
  | s, x :: r => by simp [scanW, scanW_len f (f s x) r]
theorem ascW_last {ns : List Int} {t : Int} (h : 1 ≤ ns.length) : ∃ s, (statesW ns t).getLast? = some s ∧ shownW s = ascW ns t := by
  cases ns with
  | nil => simp at h
  | cons x r =>
    unfold ascW
    cases e : (statesW (x :: r) t).getLast? with
    | none => rw [List.getLast?_eq_none_iff] at e; exact absurd e (scanW_ne _ _ _)
    | some s => exact ⟨s, rfl, rfl⟩
def trkOk (ns : List Int) : Prop := 1 ≤ ns.length ∧ ns.length ≤ 60 ∧ ∀ x ∈ ns, -1000000 ≤ x ∧ x ≤ 1000000
/-- the heights that are put in -/
def putIn (ns : List Int) (p : Nat) (x : Int) : List Int := ns.take p ++ [x] ++ ns.drop (p + 1)
def hiddenL (ns : List Int) (p : Nat) (t seen lo hi : Int) : List Int := ((List.range (hi + 1 - lo).toNat).map fun (i : Nat) => lo + (i : Int)).filter fun x => decide (ascW (putIn ns p x) t = seen)
def trkDrawn (most : Nat) (ns : List Int) : Prop := 1 ≤ ns.length ∧ ns.length ≤ most ∧ ∀ x ∈ ns, -(300 + 2 * (most : Int)) ≤ x ∧ x ≤ 300 + 2 * (most : Int)
structure WL where
  low : Int
  high : Option Int
  climbs : List (Int × Int)
  shows : List Int
def sumW (cs : List (Int × Int)) : Int := (cs.map fun p => p.2 - p.1).sum
def watchStep (t : Int) (s : WL) (h : Int) : WL := match s.high with
  | none =>
    let low := if h < s.low then h else s.low
    if low + t < h then (let cs := s.climbs ++ [(low, h)]; ⟨low, some h, cs, s.shows ++ [sumW cs]⟩)
    else ⟨low, none, s.climbs, s.shows ++ [sumW s.climbs]⟩
  | some hi =>
    if h < hi - t then ⟨h, none, s.climbs, s.shows ++ [sumW s.climbs]⟩
    else if hi < h then (let cs := s.climbs.dropLast ++ [(s.low, h)]; ⟨s.low, some h, cs, s.shows ++ [sumW cs]⟩)
    else ⟨s.low, some hi, s.climbs, s.shows ++ [sumW s.climbs]⟩
def watchL (ns : List Int) (t : Int) : WL := match ns with
  | [] => ⟨0, none, [], []⟩
  | h :: r => (h :: r).foldl (watchStep t) ⟨h, none, [], []⟩
theorem sumW_app (a b : List (Int × Int)) : sumW (a ++ b) = sumW a + sumW b := by simp [sumW]
/-- both watches are in one state -/
structure Twin (s : WL) (w : W4) : Prop where
  lo : s.low = w.lo
  c : w.c = s.high.isSome
  wait : s.high = none → w.ct = sumW s.climbs
  up : ∀ h, s.high = some h → w.hi = h ∧ ∃ cs, s.climbs = cs ++ [(w.lo, h)] ∧ w.ct = sumW cs
theorem Twin.shown {s : WL} {w : W4} (T : Twin s w) : sumW s.climbs = shownW w := by
  unfold shownW
  cases e : s.high with
  | none =>
    have hc := T.c; rw [e] at hc
    rw [if_neg (by rw [hc]; simp)]
    exact (T.wait e).symm
  | some h =>
    have hc := T.c; rw [e] at hc
    rw [if_pos (by rw [hc]; rfl)]
    obtain ⟨h1, cs, h2, h3⟩ := T.up h e
    rw [h2, sumW_app, h1, h3]
    simp [sumW]; omega
theorem Twin.step {s : WL} {w : W4} (T : Twin s w) (t h : Int) : Twin (watchStep t s h) (stepW w h t) ∧ (watchStep t s h).shows = s.shows ++ [shownW (stepW w h t)] := by
  have key : Twin (watchStep t s h) (stepW w h t) ∧ (watchStep t s h).shows = s.shows ++ [sumW (watchStep t s h).climbs] := by
    obtain ⟨low, high, cs, sh⟩ := s
    obtain ⟨wc, wlo, whi, wct⟩ := w
    obtain ⟨a1, a2, a3, a4⟩ := T
    simp only at a1 a2 a3 a4
    subst a1
    cases high with
    | none =>
      simp only [Option.isSome_none] at a2
      subst a2
      have a3 := a3 rfl
      by_cases hh : (if h < low then h else low) + t < h
      · simp only [watchStep, stepW, hh, if_true, decide_true]
        exact ⟨⟨rfl, rfl, fun z => (nomatch z), fun h' e => by cases e; exact ⟨rfl, cs, rfl, a3⟩⟩, by trivial⟩
      · simp only [watchStep, stepW, hh, if_false, decide_false]
        exact ⟨⟨rfl, rfl, fun _ => a3, fun h' e => (nomatch e)⟩, by trivial⟩
    | some hi =>
      simp only [Option.isSome_some] at a2
      subst a2
      obtain ⟨b1, cs', b2, b3⟩ := a4 hi rfl
      subst b1
      by_cases h1 : h < whi - t
      · simp only [watchStep, stepW, h1, if_true]
        refine ⟨⟨rfl, rfl, fun _ => ?_, fun h' e => (nomatch e)⟩, by trivial⟩
        simp only
        rw [b2, sumW_app, b3]
        simp [sumW]; omega
      · by_cases h2 : whi < h
        · simp only [watchStep, stepW, h1, h2, if_true, if_false, gt_iff_lt]
          refine ⟨⟨rfl, rfl, fun z => (nomatch z), fun h' e => ?_⟩, by trivial⟩
          cases e
          refine ⟨rfl, cs', ?_, b3⟩
          simp only [b2, List.dropLast_concat]
        · simp only [watchStep, stepW, h1, h2, if_false, if_true, gt_iff_lt]
          exact ⟨⟨rfl, rfl, fun z => (nomatch z), fun h' e => by cases e; exact ⟨rfl, cs', b2, b3⟩⟩, by trivial⟩
  refine ⟨key.1, ?_⟩
  rw [key.2, key.1.shown]
theorem twin_run (t : Int) : ∀ (r : List Int) (s : WL) (w : W4), Twin s w → Twin (r.foldl (watchStep t) s) (r.foldl (fun s x => stepW s x t) w) ∧
    (r.foldl (watchStep t) s).shows = s.shows ++ ((scanW (fun s x => stepW s x t) w r).drop 1).map shownW
  | [], s, w, T => ⟨T, by simp [scanW]⟩
  | x :: r, s, w, T => by
    obtain ⟨T', e'⟩ := T.step t x
    obtain ⟨T2, e2⟩ := twin_run t r _ _ T'
    refine ⟨T2, ?_⟩
    rw [List.foldl_cons, e2, e']
    cases r with
    | nil => simp [scanW]
    | cons y r => simp [scanW]
theorem watch_first (h t : Int) (ht : 0 ≤ t) : watchStep t ⟨h, none, [], []⟩ h = ⟨h, none, [], [0]⟩ := by
  have : ¬ (h + t < h) := by omega
  simp [watchStep, this, sumW]
theorem watch_states {ns : List Int} {t : Int} (ht : 0 ≤ t) : (watchL ns t).shows = (statesW ns t).map shownW := by
  cases ns with
  | nil => rfl
  | cons h r =>
    unfold watchL statesW
    show ((h :: r).foldl (watchStep t) ⟨h, none, [], []⟩).shows = _
    rw [List.foldl_cons, watch_first h t ht]
    have T : Twin ⟨h, none, [], [0]⟩ ⟨false, h, h, 0⟩ := ⟨rfl, rfl, fun _ => rfl, fun h' e => nomatch e⟩
    rw [(twin_run t r _ _ T).2]
    cases r <;> simp [scanW, shownW]
theorem shows_last {ns : List Int} {t : Int} (ht : 0 ≤ t) (h : 1 ≤ ns.length) : (watchL ns t).shows.getLast? = some (ascW ns t) := by
  rw [watch_states ht, List.getLast?_map]
  obtain ⟨s, e1, e2⟩ := ascW_last (t := t) h
  rw [e1, ← e2]; rfl
/-- what a watch may count at most -/
theorem asc_run (t B : Int) (hB : 0 ≤ B) (ht : 0 ≤ t) : ∀ (r : List Int) (w : W4) (k : Int), (∀ x ∈ r, -B ≤ x ∧ x ≤ B) → (-B ≤ w.lo ∧ w.lo ≤ B ∧ -B ≤ w.hi ∧ w.hi ≤ B ∧ w.lo ≤ w.hi ∧ 0 ≤ w.ct ∧ w.ct ≤ k) →
    0 ≤ shownW (r.foldl (fun s x => stepW s x t) w) ∧ shownW (r.foldl (fun s x => stepW s x t) w) ≤ k + 2 * B * (r.length + 1)
  | [], w, k, _, h => by
    simp only [List.foldl_nil, shownW, List.length_nil]
    have : 2 * B * ((0 : Nat) + 1 : Int) = 2 * B := by simp
    obtain ⟨c, lo, hi, ct⟩ := w
    simp only at h ⊢
    cases c <;> simp only [if_true, if_false, Bool.false_eq_true] <;> omega
  | x :: r, w, k, hx, h => by
    have hx0 := hx x (by simp)
    have ih := asc_run t B hB ht r (stepW w x t) (k + 2 * B) (fun y hy => hx y (by simp [hy])) (by
      unfold stepW
      split
      · split
        · simp only; omega
        · simp only; split <;> omega
      · simp only; split <;> omega)
    rw [List.foldl_cons]
    have e : k + 2 * B + 2 * B * ((r.length : Int) + 1) = k + 2 * B * (((x :: r).length : Nat) + 1) := by
      simp only [List.length_cons, Int.natCast_add, Int.natCast_one, Int.mul_add]
      omega
    rw [← e]; exact ih
theorem ascW_bound {ns : List Int} {t B : Int} (ht : 0 ≤ t) (hB : 0 ≤ B) (h : ∀ x ∈ ns, -B ≤ x ∧ x ≤ B) : 0 ≤ ascW ns t ∧ ascW ns t ≤ 2 * B * (ns.length : Int) := by
  cases ns with
  | nil => simp [ascW, statesW]
  | cons x r =>
    unfold ascW statesW
    simp only [scanW_last]
    have hx := h x (by simp)
    have := asc_run t B hB ht r ⟨false, x, x, 0⟩ 0 (fun y hy => h y (by simp [hy])) ⟨hx.1, hx.2, hx.1, hx.2, by simp, by simp, by simp⟩
    simp only [List.length_cons, Int.natCast_add, Int.natCast_one]
    omega
end K

namespace K
open DL (srt srt_perm srt_sorted srt_of sorted_unique)
/-! ### the play: who follows the heights at a distance -/
def stp (q w h : Int) : Int := max h (min w (h + q))
def up1 (w h : Int) : Int := max 0 (h - w)
def runW (q : Int) : Int → List Int → Int
  | w, [] => w
  | w, x :: r => runW q (stp q w x) r
def upW (q : Int) : Int → List Int → Int
  | w, [] => 0
  | w, x :: r => up1 w x + upW q (stp q w x) r
theorem runW_app (q : Int) : ∀ (w : Int) (a b : List Int), runW q w (a ++ b) = runW q (runW q w a) b
  | w, [], b => rfl
  | w, x :: a, b => by simp only [List.cons_append, runW]; exact runW_app q _ a b
theorem upW_app (q : Int) : ∀ (w : Int) (a b : List Int), upW q w (a ++ b) = upW q w a + upW q (runW q w a) b
  | w, [], b => by simp [upW, runW]
  | w, x :: a, b => by simp only [List.cons_append, upW, runW]; rw [upW_app q _ a b]; omega
def flat : List (Int × Int) → List Int
  | [] => []
  | (l, h) :: r => l :: h :: flat r
theorem flat_app : ∀ a b : List (Int × Int), flat (a ++ b) = flat a ++ flat b
  | [], b => rfl
  | (l, h) :: a, b => by simp only [List.cons_append, flat]; rw [flat_app a b]
/-- what is left of the swings above a fee -/
def G (q : Int) (xs : List Int) : Int := (xs.map fun x => max 0 (x - q)).sum
theorem G_nil (q : Int) : G q [] = 0 := rfl
theorem G_cons (q x : Int) (r : List Int) : G q (x :: r) = max 0 (x - q) + G q r := by simp [G]
theorem G_app (q : Int) (a b : List Int) : G q (a ++ b) = G q a + G q b := by simp [G]
theorem G_one (q x : Int) : G q [x] = max 0 (x - q) := by simp [G]
theorem perm_sum {a b : List Int} (h : a.Perm b) : a.sum = b.sum := by
  induction h with
  | nil => rfl
  | cons x _ ih => simp [ih]
  | swap x y l => simp; omega
  | trans _ _ h1 h2 => rw [h1, h2]
theorem G_perm (q : Int) {a b : List Int} (h : a.Perm b) : G q a = G q b := perm_sum (h.map _)
/-- an inner pair on the way down -/
theorem cut_down {q w a b c : Int} (hq : 0 ≤ q) (h1 : c ≤ a) (h2 : a ≤ b) (h3 : b ≤ w) (r : List Int) :
    upW q w (a :: b :: c :: r) = max 0 (b - a - q) + upW q w (c :: r) := by
  have e : stp q (stp q (stp q w a) b) c = stp q w c := by unfold stp; omega
  have e2 : up1 w a + (up1 (stp q w a) b + up1 (stp q (stp q w a) b) c) = max 0 (b - a - q) + up1 w c := by unfold up1 stp; omega
  simp only [upW]
  rw [e]; omega
theorem run_down {q w a b c : Int} (hq : 0 ≤ q) (h1 : c ≤ a) (h2 : a ≤ b) (h3 : b ≤ w) (r : List Int) : runW q w (a :: b :: c :: r) = runW q w (c :: r) := by
  have e : stp q (stp q (stp q w a) b) c = stp q w c := by unfold stp; omega
  simp only [runW]
  rw [e]
/-- the last pair -/
theorem cut_last {q w a b : Int} (hq : 0 ≤ q) (h2 : a ≤ b) (h3 : b ≤ w) : upW q w [a, b] = max 0 (b - a - q) := by
  simp only [upW]; unfold up1 stp; omega
/-- .. on the way up -/
theorem cut_up {q w a b c : Int} (hq : 0 ≤ q) (hw : w ≤ a + q) (h1 : a ≤ b) (h2 : b ≤ c) (r : List Int) :
    upW q w (b :: a :: c :: r) = max 0 (b - a - q) + upW q w (c :: r) := by
  have e : stp q (stp q (stp q w b) a) c = stp q w c := by unfold stp; omega
  have e2 : up1 w b + (up1 (stp q w b) a + up1 (stp q (stp q w b) a) c) = max 0 (b - a - q) + up1 w c := by unfold up1 stp; omega
  simp only [upW]
  rw [e]; omega
theorem run_last {q : Int} (hq : 0 ≤ q) (w : Int) (xs : List Int) (x : Int) : x ≤ runW q w (xs ++ [x]) ∧ runW q w (xs ++ [x]) ≤ x + q := by
  rw [runW_app]
  simp only [runW]; unfold stp; omega
/-! ### runs uphill -/
def runsV (s p : Int) : List Int → List (Int × Int)
  | [] => if s < p then [(s, p)] else []
  | x :: r => if x < p then (if s < p then (s, p) :: runsV x x r else runsV x x r) else runsV s x r
def runsT : List Int → List (Int × Int)
  | [] => []
  | x :: r => runsV x x r
theorem runs_up {q : Int} (hq : 0 ≤ q) : ∀ (r : List Int) (w s p : Int), s ≤ p → s ≤ w →
    upW q (max (min w (s + q)) p) r + max 0 (p - min w (s + q)) = upW q w (flat (runsV s p r))
  | [], w, s, p, h1, h2 => by
    unfold runsV
    split
    · simp only [flat, upW]; unfold up1 stp; omega
    · simp only [flat, upW]; omega
  | x :: r, w, s, p, h1, h2 => by
    unfold runsV
    by_cases hx : x < p
    · rw [if_pos hx]
      by_cases hs : s < p
      · rw [if_pos hs]
        have ih := runs_up hq r (stp q (stp q w s) p) x x (Int.le_refl _) (by unfold stp; omega)
        simp only [flat, upW]
        have e1 : max (min (stp q (stp q w s) p) (x + q)) x = stp q (max (min w (s + q)) p) x := by unfold stp; omega
        have e2 : up1 (max (min w (s + q)) p) x = 0 := by unfold up1; omega
        have e3 : max 0 (x - min (stp q (stp q w s) p) (x + q)) = 0 := by unfold stp; omega
        have e4 : up1 w s = 0 := by unfold up1; omega
        have e5 : up1 (stp q w s) p = max 0 (p - min w (s + q)) := by unfold up1 stp; omega
        rw [e1, e3] at ih
        rw [← ih, e2, e4, e5]; omega
      · rw [if_neg hs]
        have ih := runs_up hq r w x x (Int.le_refl _) (by omega)
        simp only [upW]
        have e1 : max (min w (x + q)) x = stp q (max (min w (s + q)) p) x := by unfold stp; omega
        have e2 : up1 (max (min w (s + q)) p) x = 0 := by unfold up1; omega
        have e3 : max 0 (x - min w (x + q)) = 0 := by omega
        rw [e1, e3] at ih
        rw [← ih, e2]; omega
    · rw [if_neg hx]
      have ih := runs_up hq r w s x (by omega) h2
      simp only [upW]
      have e1 : max (min w (s + q)) x = stp q (max (min w (s + q)) p) x := by unfold stp; omega
      have e2 : max 0 (x - min w (s + q)) = up1 (max (min w (s + q)) p) x + max 0 (p - min w (s + q)) := by unfold up1; omega
      rw [← ih, e2, e1]; omega
/-- from a start above everything -/
theorem runsT_up {q W : Int} (hq : 0 ≤ q) {ns : List Int} (hW : ∀ x ∈ ns, x ≤ W) : upW q W ns = upW q W (flat (runsT ns)) := by
  cases ns with
  | nil => rfl
  | cons x r =>
    have hx := hW x (by simp)
    have := runs_up hq r W x x (Int.le_refl _) hx
    unfold runsT
    rw [← this]
    simp only [upW]
    have e1 : max (min W (x + q)) x = stp q W x := by unfold stp; omega
    rw [e1]; unfold up1; omega
/-- rows of which each falls behind its top -/
def Alt : List (Int × Int) → Prop
  | [] => True
  | [p] => p.1 < p.2
  | p :: p' :: r => p.1 < p.2 ∧ p'.1 < p.2 ∧ Alt (p' :: r)
theorem Alt.tail {p : Int × Int} {r : List (Int × Int)} (h : Alt (p :: r)) : Alt r := by
  cases r with
  | nil => trivial
  | cons p' r => exact h.2.2
theorem Alt.head {p : Int × Int} {r : List (Int × Int)} (h : Alt (p :: r)) : p.1 < p.2 := by
  cases r with
  | nil => exact h
  | cons p' r => exact h.1
theorem runsV_head : ∀ (r : List Int) (s p : Int), s ≤ p → ∀ a b t, runsV s p r = (a, b) :: t → a ≤ s
  | [], s, p, h, a, b, t, e => by
    unfold runsV at e; split at e
    · injection e with e1 e2; injection e1 with e1 e3; omega
    · cases e
  | x :: r, s, p, h, a, b, t, e => by
    unfold runsV at e; split at e
    · split at e
      · injection e with e1 e2; injection e1 with e1 e3; omega
      · have := runsV_head r x x (Int.le_refl _) a b t e; omega
    · exact runsV_head r s x (by omega) a b t e
theorem runsV_alt : ∀ (r : List Int) (s p : Int), s ≤ p → Alt (runsV s p r)
  | [], s, p, h => by
    unfold runsV; split
    · assumption
    · trivial
  | x :: r, s, p, h => by
    unfold runsV; split
    · split
      · have ih := runsV_alt r x x (Int.le_refl _)
        cases e : runsV x x r with
        | nil => assumption
        | cons p' t =>
          obtain ⟨a, b⟩ := p'
          have := runsV_head r x x (Int.le_refl _) a b t e
          rw [e] at ih
          exact ⟨by assumption, by show a < p; omega, ih⟩
      · exact runsV_alt r x x (Int.le_refl _)
    · exact runsV_alt r s x (by omega)
theorem runsT_alt (ns : List Int) : Alt (runsT ns) := by
  cases ns with
  | nil => trivial
  | cons x r => exact runsV_alt r x x (Int.le_refl _)
/-! ### the stack -/
def popL (low : Int) : List (Int × Int) → List Int → List (Int × Int) × List Int
  | [], f => ([], f)
  | (l, h) :: t, f => if low ≤ l then popL low t (f ++ [h - l]) else ((l, h) :: t, f)
def popH (high : Int) : Int → List (Int × Int) → List Int → Int × List (Int × Int) × List Int
  | low, [], f => (low, [], f)
  | low, (l, h) :: t, f => if h ≤ high then popH high l t (f ++ [h - low]) else (low, (l, h) :: t, f)
def swS (s : List (Int × Int) × List Int) (p : Int × Int) : List (Int × Int) × List Int :=
  let a := popL p.1 s.1 s.2
  let b := popH p.2 p.1 a.1 a.2
  ((b.1, p.2) :: b.2.1, b.2.2)
def swF (rows : List (Int × Int)) : List (Int × Int) × List Int := rows.foldl swS ([], [])
def swR (rows : List (Int × Int)) : List Int := (swF rows).2 ++ (swF rows).1.reverse.map fun p => p.2 - p.1
def swL (ns : List Int) : List Int := (srt (swR (runsT ns))).reverse
/-- one within the other -/
def Nest : List (Int × Int) → Prop
  | [] => True
  | [p] => p.1 < p.2
  | p :: p' :: r => p.1 < p.2 ∧ p'.1 < p.1 ∧ p.2 < p'.2 ∧ Nest (p' :: r)
theorem Nest.tail {p : Int × Int} {r : List (Int × Int)} (h : Nest (p :: r)) : Nest r := by
  cases r with
  | nil => trivial
  | cons p' r => exact h.2.2.2
theorem Nest.head {p : Int × Int} {r : List (Int × Int)} (h : Nest (p :: r)) : p.1 < p.2 := by
  cases r with
  | nil => exact h
  | cons p' r => exact h.1
/-- who comes to the top of the stack stands above its high -/
theorem nest_w {q W : Int} (hq : 0 ≤ q) {l h : Int} {t : List (Int × Int)} (N : Nest ((l, h) :: t)) (hW : ∀ p ∈ (l, h) :: t, p.2 ≤ W) : h ≤ runW q W (flat t.reverse) := by
  cases t with
  | nil => exact hW (l, h) (by simp)
  | cons p t =>
    obtain ⟨l', h'⟩ := p
    rw [List.reverse_cons, flat_app]
    have : flat [(l', h')] = [l'] ++ [h'] := rfl
    rw [this, ← List.append_assoc]
    have h1 := (run_last hq W (flat t.reverse ++ [l']) h').1
    have h2 : h < h' := N.2.2.1
    omega
theorem popL_up {q W : Int} (hq : 0 ≤ q) (low high : Int) (rest : List Int) : ∀ (s : List (Int × Int)) (f : List Int), Nest s → (∀ p ∈ s, p.2 ≤ W) →
    G q (popL low s f).2 + upW q W (flat (popL low s f).1.reverse ++ low :: high :: rest) = G q f + upW q W (flat s.reverse ++ low :: high :: rest)
  | [], f, _, _ => rfl
  | (l, h) :: t, f, N, hW => by
    unfold popL
    split
    · rename_i hl
      have ih := popL_up hq low high rest t (f ++ [h - l]) N.tail (fun p hp => hW p (by simp [hp]))
      rw [ih, List.reverse_cons, flat_app, G_app, G_one, List.append_assoc, upW_app, upW_app]
      have : flat [(l, h)] ++ low :: high :: rest = l :: h :: low :: high :: rest := rfl
      rw [this, cut_down hq hl (Int.le_of_lt N.head) (nest_w hq N hW)]
      omega
    · rfl
theorem popL_nest (low : Int) : ∀ (s : List (Int × Int)) (f : List Int), Nest s → Nest (popL low s f).1 ∧ (∀ p ∈ (popL low s f).1, p ∈ s) ∧ (∀ p t, (popL low s f).1 = p :: t → p.1 < low) ∧ (popL low s f).1.length + (popL low s f).2.length = s.length + f.length ∧
    ((∀ x ∈ f, 0 < x) → ∀ x ∈ (popL low s f).2, 0 < x)
  | [], f, _ => ⟨trivial, (fun _ h => h), (fun p t e => by cases e), rfl, fun h => h⟩
  | (l, h) :: t, f, N => by
    unfold popL
    split
    · obtain ⟨a1, a2, a3, a4, a5⟩ := popL_nest low t (f ++ [h - l]) N.tail
      refine ⟨a1, fun p hp => by simp [a2 p hp], a3, by rw [a4]; simp; omega, fun hf => a5 (fun x hx => ?_)⟩
      rcases List.mem_append.mp hx with hx | hx
      · exact hf x hx
      · simp only [List.mem_singleton] at hx
        have := N.head
        subst hx; simp only at this ⊢; omega
    · rename_i hl
      refine ⟨N, fun p hp => hp, fun p t' e => ?_, rfl, fun h => h⟩
      injection e with e1 e2
      subst e1; simp only; omega
/-- the highs of a nest grow to its bottom -/
theorem nest_high : ∀ {s : List (Int × Int)} {l h : Int}, Nest ((l, h) :: s) → ∀ p ∈ s, h < p.2
  | [], _, _, _, p, hp => by simp at hp
  | (l', h') :: t, l, h, N, p, hp => by
    have h1 : h < h' := N.2.2.1
    rcases List.mem_cons.mp hp with rfl | hp
    · exact h1
    · have := nest_high N.tail p hp; omega
theorem popH_up {q W : Int} (hq : 0 ≤ q) (high : Int) (rest : List Int) : ∀ (s : List (Int × Int)) (low : Int) (f : List Int), Nest s → (∀ p ∈ s, p.1 < low ∧ low < p.2) →
    G q (popH high low s f).2.2 + upW q W (flat (popH high low s f).2.1.reverse ++ (popH high low s f).1 :: high :: rest) = G q f + upW q W (flat s.reverse ++ low :: high :: rest)
  | [], low, f, _, _ => rfl
  | (l, h) :: t, low, f, N, hs => by
    unfold popH
    split
    · rename_i hh
      have hl := hs (l, h) (by simp)
      simp only at hl
      have ih := popH_up (W := W) hq high rest t l (f ++ [h - low]) N.tail (fun p hp => ?_)
      · rw [ih, List.reverse_cons, flat_app, G_app, G_one, List.append_assoc, upW_app, upW_app]
        have : flat [(l, h)] ++ low :: high :: rest = l :: h :: low :: high :: rest := rfl
        rw [this]
        show _ + (_ + (up1 _ l + upW q (stp q _ l) (high :: rest))) = _ + (_ + (up1 _ l + upW q (stp q _ l) (h :: low :: high :: rest)))
        rw [cut_up hq (a := low) (b := h) (c := high) (by unfold stp; omega) (by omega) hh]
        omega
      · have h2 := hs p (by simp [hp])
        have h3 := nest_high N p hp
        have h4 := N.head
        simp only at h4
        refine ⟨?_, by omega⟩
        cases t with
        | nil => simp at hp
        | cons p' t' =>
          have : p'.1 < l := N.2.1
          rcases List.mem_cons.mp hp with rfl | hp
          · exact this
          · exact Int.lt_trans (nest_low N.tail p hp) this
    · rfl
where
  nest_low : ∀ {p : Int × Int} {t : List (Int × Int)}, Nest (p :: t) → ∀ p' ∈ t, p'.1 < p.1
    | p, [], _, p', hp => by simp at hp
    | p, p2 :: t, N, p', hp => by
      have h1 : p2.1 < p.1 := N.2.1
      rcases List.mem_cons.mp hp with rfl | hp
      · exact h1
      · exact Int.lt_trans (nest_low N.tail p' hp) h1
theorem nest_low : ∀ {p : Int × Int} {t : List (Int × Int)}, Nest (p :: t) → ∀ p' ∈ t, p'.1 < p.1
  | p, [], _, p', hp => by simp at hp
  | p, p2 :: t, N, p', hp => by
    have h1 : p2.1 < p.1 := N.2.1
    rcases List.mem_cons.mp hp with rfl | hp
    · exact h1
    · exact Int.lt_trans (nest_low N.tail p' hp) h1
theorem popH_nest (high : Int) : ∀ (s : List (Int × Int)) (low : Int) (f : List Int), Nest s → (∀ p ∈ s, p.1 < low ∧ low < p.2) → low < high →
    Nest (((popH high low s f).1, high) :: (popH high low s f).2.1) ∧ (∀ p ∈ (popH high low s f).2.1, p ∈ s) ∧ (popH high low s f).2.1.length + (popH high low s f).2.2.length = s.length + f.length ∧
    ((∀ x ∈ f, 0 < x) → ∀ x ∈ (popH high low s f).2.2, 0 < x)
  | [], low, f, _, _, hl => ⟨hl, fun _ h => h, rfl, fun h => h⟩
  | (l, h) :: t, low, f, N, hs, hl => by
    have h0 := hs (l, h) (by simp)
    simp only at h0
    unfold popH
    split
    · rename_i hh
      obtain ⟨a1, a2, a4, a5⟩ := popH_nest high t l (f ++ [h - low]) N.tail (fun p hp => ⟨nest_low N p hp, Int.lt_trans N.head (nest_high N p hp)⟩) (by omega)
      refine ⟨a1, fun p hp => by simp [a2 p hp], by rw [a4]; simp; omega, fun hf => a5 (fun x hx => ?_)⟩
      rcases List.mem_append.mp hx with hx | hx
      · exact hf x hx
      · simp only [List.mem_singleton] at hx
        subst hx; omega
    · exact ⟨⟨hl, h0.1, by simp only; omega, N⟩, fun p hp => hp, rfl, fun h => h⟩
theorem fold_up {W : Int} : ∀ (rows s : List (Int × Int)) (f : List Int), Nest s → (∀ p ∈ s, p.2 ≤ W) → (∀ p ∈ rows, p.2 ≤ W) → Alt rows → (∀ l h t, rows = (l, h) :: t → ∀ p ∈ s, l < p.2) →
    Nest (rows.foldl swS (s, f)).1 ∧ (∀ p ∈ (rows.foldl swS (s, f)).1, p.2 ≤ W) ∧ (rows.foldl swS (s, f)).1.length + (rows.foldl swS (s, f)).2.length = s.length + f.length + rows.length ∧
    ((∀ x ∈ f, 0 < x) → ∀ x ∈ (rows.foldl swS (s, f)).2, 0 < x) ∧
    ∀ q, 0 ≤ q → G q (rows.foldl swS (s, f)).2 + upW q W (flat (rows.foldl swS (s, f)).1.reverse) = G q f + upW q W (flat s.reverse ++ flat rows)
  | [], s, f, N, hs, _, _, _ => ⟨N, hs, by simp, fun h => h, fun q _ => by simp [flat]⟩
  | (l, h) :: rows, s, f, N, hs, hr, A, hl => by
    have hA := A.head
    simp only at hA
    obtain ⟨a1, a2, a3, a4, a5⟩ := popL_nest l s f N
    have hp : ∀ p ∈ (popL l s f).1, p.1 < l ∧ l < p.2 := fun p hp => by
      refine ⟨?_, hl l h rows rfl p (a2 p hp)⟩
      cases e : (popL l s f).1 with
      | nil => rw [e] at hp; simp at hp
      | cons p0 t =>
        have := a3 p0 t e
        rw [e] at hp a1
        rcases List.mem_cons.mp hp with rfl | hp
        · exact this
        · exact Int.lt_trans (nest_low a1 p hp) this
    obtain ⟨b1, b2, b4, b5⟩ := popH_nest h (popL l s f).1 l (popL l s f).2 a1 hp hA
    have e : swS (s, f) (l, h) = (((popH h l (popL l s f).1 (popL l s f).2).1, h) :: (popH h l (popL l s f).1 (popL l s f).2).2.1, (popH h l (popL l s f).1 (popL l s f).2).2.2) := rfl
    have ih := fold_up (W := W) rows (swS (s, f) (l, h)).1 (swS (s, f) (l, h)).2 (by rw [e]; exact b1) (by
        rw [e]; intro p hp
        rcases List.mem_cons.mp hp with rfl | hp
        · exact hr (l, h) (by simp)
        · exact hs p (a2 p (b2 p hp))) (fun p hp => hr p (by simp [hp])) A.tail (by
        intro l' h' t' er p hp
        rw [e] at hp
        subst er
        have hlt : l' < h := A.2.1
        rcases List.mem_cons.mp hp with rfl | hp
        · exact hlt
        · exact Int.lt_trans hlt (nest_high b1 p hp))
    obtain ⟨c1, c2, c3, c4, c5⟩ := ih
    rw [List.foldl_cons]
    refine ⟨c1, c2, ?_, fun hf => c4 ?_, fun q hq => ?_⟩
    · rw [c3, e]; simp only [List.length_cons]; omega
    · rw [e]; exact b5 (a5 hf)
    · rw [c5 q hq, e]
      simp only
      have u1 := popL_up hq l h (flat rows) s f N hs
      have u2 := popH_up (W := W) hq h (flat rows) (popL l s f).1 l (popL l s f).2 a1 hp
      show _ = G q f + upW q W (flat s.reverse ++ l :: h :: flat rows)
      rw [← u1, ← u2, List.reverse_cons, flat_app, List.append_assoc]
      rfl
theorem nest_G {q W : Int} (hq : 0 ≤ q) : ∀ {s : List (Int × Int)}, Nest s → (∀ p ∈ s, p.2 ≤ W) → upW q W (flat s.reverse) = G q (s.reverse.map fun p => p.2 - p.1)
  | [], _, _ => rfl
  | (l, h) :: t, N, hW => by
    rw [List.reverse_cons, flat_app, upW_app, List.map_append, G_app, nest_G hq N.tail (fun p hp => hW p (by simp [hp]))]
    have : flat [(l, h)] = [l, h] := rfl
    rw [this, cut_last hq (Int.le_of_lt N.head) (nest_w hq N hW)]
    show _ = _ + G q [h - l]
    rw [G_one]
/-- what the stack finds: the gains left of every fee -/
theorem swR_up {W : Int} {rows : List (Int × Int)} (A : Alt rows) (hW : ∀ p ∈ rows, p.2 ≤ W) : (swR rows).length = rows.length ∧ (∀ x ∈ swR rows, 0 < x) ∧ ∀ q, 0 ≤ q → G q (swR rows) = upW q W (flat rows) := by
  obtain ⟨c1, c2, c3, c4, c5⟩ := fold_up (W := W) rows [] [] trivial (fun _ h => by simp at h) hW A (fun _ _ _ _ p hp => by simp at hp)
  refine ⟨?_, fun x hx => ?_, fun q hq => ?_⟩
  · simp only [swR, swF, List.length_append, List.length_map, List.length_reverse]
    simp only [List.length_nil] at c3; omega
  · rcases List.mem_append.mp hx with hx | hx
    · exact c4 (fun x h => by simp at h) x hx
    · obtain ⟨p, hp, rfl⟩ := List.mem_map.mp hx
      have := nest_lt c1 p (List.mem_reverse.mp hp)
      omega
  · have := c5 q hq
    rw [nest_G hq c1 c2] at this
    simp only [swR, swF, G_app]
    rw [this]; simp [flat, G_nil]
where
  nest_lt : ∀ {s : List (Int × Int)}, Nest s → ∀ p ∈ s, p.1 < p.2
    | [], _, p, hp => by simp at hp
    | p0 :: t, N, p, hp => by
      rcases List.mem_cons.mp hp with rfl | hp
      · exact N.head
      · exact nest_lt N.tail p hp
/-! ### the table -/
def dpD (D U : Nat → Option Int) (h : Int) : Nat → Option Int
  | 0 => D 0
  | c + 1 => match U (c + 1) with
    | none => D (c + 1)
    | some u => some (match D (c + 1) with | none => u + h | some d => max (u + h) d)
def dpU (fee : Int) (D U : Nat → Option Int) (h : Int) : Nat → Option Int
  | 0 => U 0
  | c + 1 => match dpD D U h c with
    | none => U (c + 1)
    | some d => some (match U (c + 1) with | none => d - h - fee | some o => max (d - h - fee) o)
def dpF (fee : Int) (s : (Nat → Option Int) × (Nat → Option Int)) (h : Int) : (Nat → Option Int) × (Nat → Option Int) := (dpD s.1 s.2 h, dpU fee s.1 s.2 h)
def dp0 : (Nat → Option Int) × (Nat → Option Int) := (fun c => if c = 0 then some 0 else none, fun _ => none)
def dp (fee : Int) (ns : List Int) : Nat → Option Int := (ns.foldl (dpF fee) dp0).1
def shf (fee : Int) (D : Nat → Option Int) : Nat → Option Int := fun c => (D c).map fun d => d - (c : Int) * fee
theorem shf_D (fee h : Int) (D U : Nat → Option Int) : dpD (shf fee D) (shf fee U) h = shf fee (dpD D U h) := by
  funext c
  cases c with
  | zero => rfl
  | succ c =>
    unfold dpD shf
    simp only
    cases U (c + 1) <;> cases D (c + 1) <;> simp <;> omega
theorem shf_U (fee h : Int) (D U : Nat → Option Int) : dpU fee (shf fee D) (shf fee U) h = shf fee (dpU 0 D U h) := by
  funext c
  cases c with
  | zero => rfl
  | succ c =>
    have e : ((c + 1 : Nat) : Int) * fee = (c : Int) * fee + fee := by rw [Int.natCast_add, Int.add_mul]; simp
    unfold dpU
    rw [shf_D]
    unfold shf
    simp only
    rw [e]
    cases dpD D U h c <;> cases U (c + 1) <;> simp <;> omega
theorem dp_fee (fee : Int) (ns : List Int) : dp fee ns = shf fee (dp 0 ns) := by
  have key : ∀ (ns : List Int) (s : (Nat → Option Int) × (Nat → Option Int)), ns.foldl (dpF fee) (shf fee s.1, shf fee s.2) = (shf fee (ns.foldl (dpF 0) s).1, shf fee (ns.foldl (dpF 0) s).2) := by
    intro ns
    induction ns with
    | nil => intro s; rfl
    | cons x r ih =>
      intro s
      rw [List.foldl_cons, List.foldl_cons, ← ih (dpF 0 s x)]
      unfold dpF
      rw [shf_D, shf_U]
  unfold dp
  have e : dp0 = (shf fee dp0.1, shf fee dp0.2) := by
    unfold dp0 shf
    simp only [Option.map_none, Prod.mk.injEq, and_true]
    funext c
    by_cases h : c = 0
    · subst h; simp
    · simp [h]
  have := key ns dp0
  rw [← e] at this
  rw [this]
/-- the table gives no more than the play -/
theorem dp_le {q : Int} (hq : 0 ≤ q) {W : Int} (ns : List Int) {c : Nat} {d : Int} (h : dp 0 ns c = some d) : d ≤ upW q W ns + (c : Int) * q := by
  have key : ∀ (ns : List Int) (s : (Nat → Option Int) × (Nat → Option Int)) (w v : Int), (∀ c d, s.1 c = some d → d ≤ v + (c : Int) * q) → (∀ c u, s.2 c = some u → u ≤ v - w + (c : Int) * q) →
      ∀ c d, (ns.foldl (dpF 0) s).1 c = some d → d ≤ v + upW q w ns + (c : Int) * q := by
    intro ns
    induction ns with
    | nil => intro s w v h1 h2 c d h; have := h1 c d h; simp only [upW]; omega
    | cons x r ih =>
      intro s w v h1 h2 c d h
      rw [List.foldl_cons] at h
      have a1 : ∀ c d, (dpF 0 s x).1 c = some d → d ≤ v + up1 w x + (c : Int) * q := by
        intro c d h
        have hv : 0 ≤ up1 w x ∧ x - w ≤ up1 w x := by unfold up1; omega
        cases c with
        | zero => have := h1 0 d h; omega
        | succ c =>
          have i1 := h1 (c + 1)
          have i2 := h2 (c + 1)
          simp only [dpF, dpD] at h
          generalize ((c + 1 : Nat) : Int) * q = m at i1 i2 ⊢
          cases e2 : s.2 (c + 1) with
          | none => rw [e2] at h; have := i1 d h; omega
          | some u =>
            have j2 := i2 u e2
            rw [e2] at h
            cases e1 : s.1 (c + 1) with
            | none => rw [e1] at h; simp only [Option.some.injEq] at h; omega
            | some d1 => have j1 := i1 d1 e1; rw [e1] at h; simp only [Option.some.injEq] at h; omega
      have a2 : ∀ c u, (dpF 0 s x).2 c = some u → u ≤ v + up1 w x - stp q w x + (c : Int) * q := by
        intro c u h
        have hs : stp q w x - w ≤ up1 w x ∧ stp q w x ≤ x + q := by unfold stp up1; omega
        cases c with
        | zero => have := h2 0 u h; omega
        | succ c =>
          have i2 := h2 (c + 1)
          have i1 := a1 c
          have e : ((c + 1 : Nat) : Int) * q = (c : Int) * q + q := by rw [Int.natCast_add, Int.add_mul]; simp
          simp only [dpF, dpU] at h i1
          rw [e] at i2 ⊢
          generalize (c : Int) * q = m at i1 i2 ⊢
          cases e1 : dpD s.1 s.2 x c with
          | none => rw [e1] at h; have := i2 u h; omega
          | some d =>
            have j1 := i1 d e1
            rw [e1] at h
            cases e2 : s.2 (c + 1) with
            | none => rw [e2] at h; simp only [Option.some.injEq] at h; omega
            | some o => have j2 := i2 o e2; rw [e2] at h; simp only [Option.some.injEq] at h; omega
      have := ih (dpF 0 s x) (stp q w x) (v + up1 w x) a1 a2 c d h
      simp only [upW]; omega
  have := key ns dp0 W 0 (fun c d h => by
    simp only [dp0] at h
    split at h
    · rename_i e; subst e; cases h; simp
    · cases h) (fun c u h => by simp [dp0] at h) c d h
  omega
def geO (o : Option Int) (x : Int) : Prop := ∃ d, o = some d ∧ x ≤ d
theorem geD {D U : Nat → Option Int} {h x : Int} {c : Nat} (g : geO (D c) x) : geO (dpD D U h c) x := by
  obtain ⟨d, e, hd⟩ := g
  cases c with
  | zero => exact ⟨d, e, hd⟩
  | succ c =>
    unfold dpD
    simp only [e]
    cases U (c + 1) with
    | none => exact ⟨d, rfl, hd⟩
    | some u => exact ⟨_, rfl, by omega⟩
theorem geD' {D U : Nat → Option Int} {h x : Int} {c : Nat} (g : geO (U (c + 1)) x) : geO (dpD D U h (c + 1)) (x + h) := by
  obtain ⟨d, e, hd⟩ := g
  unfold dpD
  simp only [e]
  cases D (c + 1) with
  | none => exact ⟨_, rfl, by simp only; omega⟩
  | some u => exact ⟨_, rfl, by simp only; omega⟩
theorem geU {D U : Nat → Option Int} {h x : Int} {c : Nat} (g : geO (U (c + 1)) x) : geO (dpU 0 D U h (c + 1)) x := by
  obtain ⟨d, e, hd⟩ := g
  unfold dpU
  simp only
  cases dpD D U h c with
  | none => exact ⟨d, e, hd⟩
  | some u => rw [e]; exact ⟨_, rfl, by simp only; omega⟩
theorem geU' {D U : Nat → Option Int} {h x : Int} {c : Nat} (g : geO (D c) x) : geO (dpU 0 D U h (c + 1)) (x - h) := by
  obtain ⟨d, e, hd⟩ := geD (U := U) (h := h) g
  unfold dpU
  simp only [e]
  cases U (c + 1) with
  | none => exact ⟨_, rfl, by simp only; omega⟩
  | some u => exact ⟨_, rfl, by simp only; omega⟩
def gain (rows : List (Int × Int)) : Int := (rows.map fun p => p.2 - p.1).sum
theorem gain_cons (p : Int × Int) (r : List (Int × Int)) : gain (p :: r) = p.2 - p.1 + gain r := by simp [gain]
theorem gain_app (a b : List (Int × Int)) : gain (a ++ b) = gain a + gain b := by simp [gain]
theorem dp_ge' : ∀ (ns : List Int) (s : (Nat → Option Int) × (Nat → Option Int)),
    (∀ rows k g, geO (s.1 k) g → (flat rows).Sublist ns → geO ((ns.foldl (dpF 0) s).1 (k + rows.length)) (g + gain rows)) ∧
    (∀ h rows k u, geO (s.2 (k + 1)) u → (h :: flat rows).Sublist ns → geO ((ns.foldl (dpF 0) s).1 (k + 1 + rows.length)) (u + h + gain rows))
  | [], s => by
    refine ⟨fun rows k g hg hs => ?_, fun h rows k u _ hs => by cases hs⟩
    cases rows with
    | nil => simpa [gain] using hg
    | cons p r => obtain ⟨a, b⟩ := p; simp [flat] at hs
  | x :: ns, s => by
    have ih := dp_ge' ns (dpF 0 s x)
    rw [List.foldl_cons]
    refine ⟨fun rows k g hg hs => ?_, fun h rows k u hu hs => ?_⟩
    · cases rows with
      | nil => exact ih.1 [] k g (geD hg) (by simp [flat])
      | cons p r =>
        obtain ⟨a, b⟩ := p
        simp only [flat] at hs
        cases hs with
        | cons _ h1 => exact ih.1 ((a, b) :: r) k g (geD hg) h1
        | cons_cons _ h1 =>
          have := ih.2 b r k (g - x) (geU' hg) h1
          rw [gain_cons]
          have e : k + ((x, b) :: r).length = k + 1 + r.length := by simp only [List.length_cons]; omega
          rw [e]
          have e2 : g + ((x, b).2 - (x, b).1 + gain r) = g - x + b + gain r := by simp only; omega
          rw [e2]; exact this
    · cases hs with
      | cons _ h1 => exact ih.2 h rows k u (geU hu) h1
      | cons_cons _ h1 => exact ih.1 rows (k + 1) (u + x) (geD' hu) h1
theorem dp_ge {ns : List Int} {rows : List (Int × Int)} (h : (flat rows).Sublist ns) : ∃ d, dp 0 ns rows.length = some d ∧ gain rows ≤ d := by
  have := (dp_ge' ns dp0).1 rows 0 0 ⟨0, rfl, Int.le_refl _⟩ h
  rw [Nat.zero_add, Int.zero_add] at this
  exact this
/-! ### the smallest step away -/
def Gap (m : Int) : List (Int × Int) → Prop
  | [] => True
  | [p] => p.1 + m ≤ p.2
  | p :: p' :: r => p.1 + m ≤ p.2 ∧ p'.1 + m ≤ p.2 ∧ Gap m (p' :: r)
theorem Gap.tail {m : Int} {p : Int × Int} {r : List (Int × Int)} (h : Gap m (p :: r)) : Gap m r := by
  cases r with
  | nil => trivial
  | cons p' r => exact h.2.2
theorem Gap.head {m : Int} {p : Int × Int} {r : List (Int × Int)} (h : Gap m (p :: r)) : p.1 + m ≤ p.2 := by
  cases r with
  | nil => exact h
  | cons p' r => exact h.1
theorem Gap.mono {m m' : Int} (hm : m' ≤ m) : ∀ {rows : List (Int × Int)}, Gap m rows → Gap m' rows
  | [], _ => trivial
  | [p], h => by have h : p.1 + m ≤ p.2 := h; show p.1 + m' ≤ p.2; omega
  | p :: p' :: r, h => ⟨by have := h.1; omega, by have := h.2.1; omega, Gap.mono hm h.2.2⟩
theorem alt_gap : ∀ {rows : List (Int × Int)}, Alt rows → Gap 1 rows
  | [], _ => trivial
  | [p], h => by have h : p.1 < p.2 := h; show p.1 + 1 ≤ p.2; omega
  | p :: p' :: r, h => ⟨by have := h.1; omega, by have := h.2.1; omega, alt_gap h.2.2⟩
theorem Gap.mid {m : Int} : ∀ {A : List (Int × Int)} {p : Int × Int} {B : List (Int × Int)}, Gap m (A ++ p :: B) → Gap m (p :: B)
  | [], _, _, h => h
  | a :: A, p, B, h => Gap.mid (A := A) h.tail
/-- one climb less -/
theorem gap_rem {m : Int} {l h : Int} (e : h = l + m) {B : List (Int × Int)} : ∀ {A : List (Int × Int)}, Gap m (A ++ (l, h) :: B) → Gap m (A ++ B)
  | [], g => g.tail
  | [p], g => by
    have g : p.1 + m ≤ p.2 ∧ l + m ≤ p.2 ∧ Gap m ((l, h) :: B) := g
    cases B with
    | nil => exact g.1
    | cons p2 B =>
      have g2 : l + m ≤ h ∧ p2.1 + m ≤ h ∧ Gap m (p2 :: B) := g.2.2
      exact ⟨g.1, by omega, g2.2.2⟩
  | p :: p' :: A, g => by
    have g : p.1 + m ≤ p.2 ∧ p'.1 + m ≤ p.2 ∧ Gap m (p' :: A ++ (l, h) :: B) := g
    exact ⟨g.1, g.2.1, gap_rem e (A := p' :: A) g.2.2⟩
theorem gap_mer {m : Int} {l h l' h' : Int} (e : h = l' + m) {B : List (Int × Int)} : ∀ {A : List (Int × Int)}, Gap m (A ++ (l, h) :: (l', h') :: B) → Gap m (A ++ (l, h') :: B)
  | [], g => by
    have g : l + m ≤ h ∧ l' + m ≤ h ∧ Gap m ((l', h') :: B) := g
    have g3 : l' + m ≤ h' := g.2.2.head
    cases B with
    | nil => show l + m ≤ h'; omega
    | cons p2 B =>
      have g2 : l' + m ≤ h' ∧ p2.1 + m ≤ h' ∧ Gap m (p2 :: B) := g.2.2
      exact ⟨by show l + m ≤ h'; omega, g2.2.1, g2.2.2⟩
  | [p], g => by
    have g : p.1 + m ≤ p.2 ∧ l + m ≤ p.2 ∧ Gap m ((l, h) :: (l', h') :: B) := g
    exact ⟨g.1, g.2.1, gap_mer e (A := []) g.2.2⟩
  | p :: p' :: A, g => by
    have g : p.1 + m ≤ p.2 ∧ p'.1 + m ≤ p.2 ∧ Gap m (p' :: A ++ (l, h) :: (l', h') :: B) := g
    exact ⟨g.1, g.2.1, gap_mer e (A := p' :: A) g.2.2⟩
theorem list_end {α : Type} (A : List α) : A = [] ∨ ∃ A' p, A = A' ++ [p] := by
  cases A with
  | nil => exact .inl rfl
  | cons a r => exact .inr ⟨(a :: r).dropLast, (a :: r).getLast (by simp), (List.dropLast_concat_getLast (by simp)).symm⟩
theorem up_rem {m q W : Int} (hm : 0 ≤ m) (hq : 0 ≤ q) {l h : Int} (e : h = l + m) {A B : List (Int × Int)} (g : Gap m (A ++ (l, h) :: B)) (hW : h ≤ W) :
    upW q W (flat (A ++ (l, h) :: B)) = upW q W (flat (A ++ B)) + max 0 (m - q) := by
  have w0 : h ≤ runW q W (flat A) := by
    rcases list_end A with rfl | ⟨A', p, rfl⟩
    · exact hW
    · rw [flat_app]
      obtain ⟨a, b⟩ := p
      have : flat [(a, b)] = [a] ++ [b] := rfl
      rw [this, ← List.append_assoc]
      have h1 := (run_last hq W (flat A' ++ [a]) b).1
      rw [List.append_assoc] at g
      have g2 : a + m ≤ b ∧ l + m ≤ b ∧ Gap m ((l, h) :: B) := g.mid
      omega
  rw [flat_app, flat_app, upW_app, upW_app]
  have : flat ((l, h) :: B) = l :: h :: flat B := rfl
  rw [this]
  cases B with
  | nil => simp only [flat]; rw [cut_last hq (by omega) w0]; simp only [upW]; omega
  | cons p2 B =>
    obtain ⟨c, d⟩ := p2
    have g2 : l + m ≤ h ∧ c + m ≤ h ∧ Gap m ((c, d) :: B) := g.mid
    simp only [flat]
    rw [cut_down hq (by omega) (by omega) w0]
    omega
theorem up_mer {m q W : Int} (hm : 0 ≤ m) (hq : 0 ≤ q) {l h l' h' : Int} (e : h = l' + m) {A B : List (Int × Int)} (g : Gap m (A ++ (l, h) :: (l', h') :: B)) :
    upW q W (flat (A ++ (l, h) :: (l', h') :: B)) = upW q W (flat (A ++ (l, h') :: B)) + max 0 (m - q) := by
  have g2 : l + m ≤ h ∧ l' + m ≤ h ∧ Gap m ((l', h') :: B) := g.mid
  have g3 : l' + m ≤ h' := g2.2.2.head
  rw [flat_app, flat_app, upW_app, upW_app]
  simp only [flat]
  show _ + (up1 _ l + upW q (stp q _ l) (h :: l' :: h' :: flat B)) = _ + (up1 _ l + upW q (stp q _ l) (h' :: flat B)) + _
  rw [cut_up hq (a := l') (b := h) (c := h') (by unfold stp; omega) (by omega) (by omega)]
  omega
theorem min_gap : ∀ {rows : List (Int × Int)}, rows ≠ [] → ∃ m, Gap m rows ∧ ((∃ A l h B, rows = A ++ (l, h) :: B ∧ h = l + m) ∨ (∃ A l h l' h' B, rows = A ++ (l, h) :: (l', h') :: B ∧ h = l' + m))
  | [], h => absurd rfl h
  | [(a, b)], _ => ⟨b - a, by show a + (b - a) ≤ b; omega, .inl ⟨[], a, b, [], rfl, by omega⟩⟩
  | (a, b) :: (c, d) :: r, _ => by
    obtain ⟨m, g, hm⟩ := min_gap (rows := (c, d) :: r) (by simp)
    have lift : (∃ A l h B, (c, d) :: r = A ++ (l, h) :: B ∧ h = l + m) ∨ (∃ A l h l' h' B, (c, d) :: r = A ++ (l, h) :: (l', h') :: B ∧ h = l' + m) →
        (∃ A l h B, (a, b) :: (c, d) :: r = A ++ (l, h) :: B ∧ h = l + m) ∨ (∃ A l h l' h' B, (a, b) :: (c, d) :: r = A ++ (l, h) :: (l', h') :: B ∧ h = l' + m) := by
      rintro (⟨A, l, h, B, e, eh⟩ | ⟨A, l, h, l', h', B, e, eh⟩)
      · exact .inl ⟨(a, b) :: A, l, h, B, by rw [e]; rfl, eh⟩
      · exact .inr ⟨(a, b) :: A, l, h, l', h', B, by rw [e]; rfl, eh⟩
    by_cases h1 : a + m ≤ b
    · by_cases h2 : c + m ≤ b
      · exact ⟨m, ⟨h1, h2, g⟩, lift hm⟩
      · by_cases h3 : b - c ≤ b - a
        · exact ⟨b - c, ⟨by show a + (b - c) ≤ b; omega, by show c + (b - c) ≤ b; omega, g.mono (by omega)⟩, .inr ⟨[], a, b, c, d, r, rfl, by omega⟩⟩
        · exact ⟨b - a, ⟨by show a + (b - a) ≤ b; omega, by show c + (b - a) ≤ b; omega, g.mono (by omega)⟩, .inl ⟨[], a, b, (c, d) :: r, rfl, by omega⟩⟩
    · by_cases h3 : b - c ≤ b - a
      · exact ⟨b - c, ⟨by show a + (b - c) ≤ b; omega, by show c + (b - c) ≤ b; omega, g.mono (by omega)⟩, .inr ⟨[], a, b, c, d, r, rfl, by omega⟩⟩
      · exact ⟨b - a, ⟨by show a + (b - a) ≤ b; omega, by show c + (b - a) ≤ b; omega, g.mono (by omega)⟩, .inl ⟨[], a, b, (c, d) :: r, rfl, by omega⟩⟩
theorem sub_rem (A B : List (Int × Int)) (l h : Int) : (flat (A ++ B)).Sublist (flat (A ++ (l, h) :: B)) := by
  rw [flat_app, flat_app]
  exact List.Sublist.append_left (((List.Sublist.refl _).cons h).cons l) _
theorem sub_mer (A B : List (Int × Int)) (l h l' h' : Int) : (flat (A ++ (l, h') :: B)).Sublist (flat (A ++ (l, h) :: (l', h') :: B)) := by
  rw [flat_app, flat_app]
  refine List.Sublist.append_left ?_ _
  simp only [flat]
  exact ((List.Sublist.refl _).cons l').cons h |>.cons_cons l
theorem gap_pos {m : Int} {rows : List (Int × Int)} (g1 : Gap 1 rows) (hm : (∃ A l h B, rows = A ++ (l, h) :: B ∧ h = l + m) ∨ (∃ A l h l' h' B, rows = A ++ (l, h) :: (l', h') :: B ∧ h = l' + m)) {k : Int} (gk : Gap k rows) : k ≤ m := by
  rcases hm with ⟨A, l, h, B, rfl, e⟩ | ⟨A, l, h, l', h', B, rfl, e⟩
  · have := gk.mid.head
    simp only at this; omega
  · have : l + k ≤ h ∧ l' + k ≤ h ∧ Gap k ((l', h') :: B) := gk.mid
    omega
/-- steps away, one by one: the list of swings -/
theorem peel {W : Int} : ∀ (n : Nat) (rows : List (Int × Int)), rows.length = n → Gap 1 rows → (∀ p ∈ rows, p.2 ≤ W) →
    ∃ S : List Int, S.length = n ∧ S.Pairwise (· ≥ ·) ∧ (∀ k, Gap k rows → ∀ s ∈ S, k ≤ s) ∧ (∀ q, 0 ≤ q → upW q W (flat rows) = G q S) ∧
      (∀ c, c ≤ n → ∃ rc : List (Int × Int), rc.length = c ∧ (flat rc).Sublist (flat rows) ∧ gain rc = (S.take c).sum)
  | 0, rows, hn, _, _ => by
    have : rows = [] := List.eq_nil_of_length_eq_zero hn
    subst this
    exact ⟨[], rfl, .nil, fun _ _ s hs => by simp at hs, fun _ _ => rfl, fun c hc => ⟨[], by simp; omega, .refl _, by simp [gain]⟩⟩
  | n + 1, rows, hn, g1, hW => by
    obtain ⟨m, g, hm⟩ := min_gap (rows := rows) (fun e => by subst e; simp at hn)
    have m1 : 1 ≤ m := gap_pos g1 hm g1
    obtain ⟨rows', hl, g', hW', sub, eu, eg⟩ : ∃ rows' : List (Int × Int), rows'.length = n ∧ Gap m rows' ∧ (∀ p ∈ rows', p.2 ≤ W) ∧ (flat rows').Sublist (flat rows) ∧ (∀ q, 0 ≤ q → upW q W (flat rows) = upW q W (flat rows') + max 0 (m - q)) ∧ gain rows = gain rows' + m := by
      rcases hm with ⟨A, l, h, B, rfl, e⟩ | ⟨A, l, h, l', h', B, rfl, e⟩
      · refine ⟨A ++ B, by simp at hn ⊢; omega, gap_rem e g, fun p hp => hW p ?_, sub_rem A B l h, fun q hq => up_rem (by omega) hq e g (hW (l, h) (by simp)), ?_⟩
        · rcases List.mem_append.mp hp with hp | hp <;> simp [hp]
        · rw [gain_app, gain_app, gain_cons]; simp only; omega
      · refine ⟨A ++ (l, h') :: B, by simp at hn ⊢; omega, gap_mer e g, fun p hp => ?_, sub_mer A B l h l' h', fun q hq => up_mer (by omega) hq e g, ?_⟩
        · rcases List.mem_append.mp hp with hp | hp
          · exact hW p (by simp [hp])
          · rcases List.mem_cons.mp hp with rfl | hp
            · exact hW (l', h') (by simp)
            · exact hW p (by simp [hp])
        · rw [gain_app, gain_app, gain_cons, gain_cons, gain_cons]; simp only; omega
    obtain ⟨S, s1, s2, s3, s4, s5⟩ := peel n rows' hl (g'.mono m1) hW'
    refine ⟨S ++ [m], by simp [s1], ?_, fun k gk s hs => ?_, fun q hq => ?_, fun c hc => ?_⟩
    · refine List.pairwise_append.mpr ⟨s2, by simp, fun a ha b hb => ?_⟩
      simp only [List.mem_singleton] at hb
      subst hb
      exact s3 _ g' a ha
    · have km := gap_pos g1 hm gk
      rcases List.mem_append.mp hs with hs | hs
      · exact Int.le_trans km (s3 _ g' s hs)
      · simp only [List.mem_singleton] at hs; omega
    · rw [eu q hq, s4 q hq, G_app, G_one]
    · by_cases h : c ≤ n
      · obtain ⟨rc, r1, r2, r3⟩ := s5 c h
        exact ⟨rc, r1, r2.trans sub, by rw [r3, List.take_append_of_le_length (by omega)]⟩
      · have e : c = n + 1 := by omega
        subst e
        obtain ⟨rc, r1, r2, r3⟩ := s5 n (Nat.le_refl _)
        refine ⟨rows, hn, .refl _, ?_⟩
        rw [List.take_of_length_le (by simp; omega), eg]
        have : gain rows' = S.sum := by
          have h0 := s4 0 (Int.le_refl _)
          have h1 : G 0 S = S.sum := G0 (fun s hs => Int.le_trans (by omega) (s3 _ g' s hs))
          rw [← h1, ← h0]
          exact (up0 (g'.mono m1) hW').symm
        rw [this]; simp
where
  G0 : ∀ {S : List Int}, (∀ s ∈ S, 0 ≤ s) → G 0 S = S.sum
    | [], _ => rfl
    | x :: r, h => by
      have := h x (by simp)
      rw [G_cons, G0 (fun s hs => h s (by simp [hs])), List.sum_cons]; omega
  up0 : ∀ {rows : List (Int × Int)} {W : Int}, Gap 1 rows → (∀ p ∈ rows, p.2 ≤ W) → upW 0 W (flat rows) = gain rows
    | [], _, _, _ => rfl
    | (l, h) :: r, W, g, hW => by
      have g0 := g.head
      have w0 := hW (l, h) (by simp)
      simp only at g0 w0
      have e1 : stp 0 (stp 0 W l) h = h := by unfold stp; omega
      have ih : upW 0 h (flat r) = gain r := by
        cases r with
        | nil => rfl
        | cons p r =>
          obtain ⟨l', h'⟩ := p
          have g2 : l + 1 ≤ h ∧ l' + 1 ≤ h ∧ Gap 1 ((l', h') :: r) := g
          have g3 := g2.2.2.head
          have e2 : stp 0 h l' = l' := by unfold stp; omega
          have e3 : stp 0 (max W (max h h')) l' = l' := by have := hW (l', h') (by simp); unfold stp; simp only at this; omega
          have := up0 (W := max W (max h h')) g2.2.2 (fun p hp => by have := hW p (by simp [hp]); omega)
          simp only [flat, upW] at this ⊢
          rw [e3] at this
          rw [e2]
          have z1 : up1 h l' = 0 := by unfold up1; omega
          have z2 : up1 (max W (max h h')) l' = 0 := by unfold up1; omega
          rw [z2] at this; rw [z1]; exact this
      rw [gain_cons]
      simp only [flat, upW]
      rw [e1, ih]
      unfold up1 stp; omega
/-! ### the swings are told by the play -/
def cnt (q : Int) (xs : List Int) : Int := (xs.countP fun x => decide (q < x) : Nat)
theorem G_cnt (q : Int) : ∀ xs : List Int, G q xs - G (q + 1) xs = cnt q xs
  | [] => rfl
  | x :: r => by
    have ih := G_cnt q r
    unfold cnt at ih ⊢
    rw [G_cons, G_cons, List.countP_cons]
    by_cases h : q < x
    · simp only [h, decide_true, if_true]; omega
    · simp only [h, decide_false, if_false, Bool.false_eq_true]; omega
theorem count_cnt (x : Int) : ∀ xs : List Int, ((xs.count x : Nat) : Int) = cnt (x - 1) xs - cnt x xs
  | [] => rfl
  | y :: r => by
    have ih := count_cnt x r
    unfold cnt at ih ⊢
    rw [List.count_cons, List.countP_cons, List.countP_cons]
    by_cases h : y = x
    · subst h
      simp only [beq_self_eq_true, if_true, show y - 1 < y by omega, decide_true, Int.lt_irrefl, decide_false, if_false, Bool.false_eq_true]; omega
    · have h1 : (y == x) = false := by simpa using h
      have h2 : decide (x - 1 < y) = decide (x < y) := by
        by_cases h3 : x < y
        · simp [h3]; omega
        · simp [h3]; omega
      rw [h1, h2]; simp only [if_false, Bool.false_eq_true]; omega
theorem swings_perm {a b : List Int} (ha : ∀ x ∈ a, 0 < x) (hb : ∀ x ∈ b, 0 < x) (h : ∀ q, 0 ≤ q → G q a = G q b) : a.Perm b := by
  rw [List.perm_iff_count]
  intro x
  by_cases hx : 0 < x
  · have e1 := count_cnt x a
    have e2 := count_cnt x b
    have g1 := G_cnt (x - 1) a
    have g2 := G_cnt (x - 1) b
    have g3 := G_cnt x a
    have g4 := G_cnt x b
    have h1 := h (x - 1) (by omega)
    have h2 := h x (by omega)
    have h3 := h (x + 1) (by omega)
    have e : x - 1 + 1 = x := by omega
    rw [e] at g1 g2
    omega
  · rw [List.count_eq_zero_of_not_mem (fun m => hx (ha x m)), List.count_eq_zero_of_not_mem (fun m => hx (hb x m))]
theorem desc_unique {a b : List Int} (h : a.Perm b) (ha : a.Pairwise (· ≥ ·)) (hb : b.Pairwise (· ≥ ·)) : a = b := by
  have h1 : a.reverse.Perm b.reverse := (List.reverse_perm a).trans (h.trans (List.reverse_perm b).symm)
  have := sorted_unique h1 (List.pairwise_reverse.mpr ha) (List.pairwise_reverse.mpr hb)
  exact List.reverse_inj.mp this
theorem flat_len : ∀ rows : List (Int × Int), (flat rows).length = 2 * rows.length
  | [] => rfl
  | (a, b) :: r => by simp only [flat, List.length_cons, flat_len r]; omega
theorem runsV_sub : ∀ (r : List Int) (s p : Int), (flat (runsV s p r)).Sublist (s :: r) ∨ (flat (runsV s p r)).Sublist (s :: p :: r)
  | r, s, p => .inr (go r s p)
where
  go : ∀ (r : List Int) (s p : Int), (flat (runsV s p r)).Sublist (s :: p :: r)
    | [], s, p => by
      unfold runsV; split
      · exact .refl _
      · exact List.nil_sublist _
    | x :: r, s, p => by
      unfold runsV; split
      · have ih := go1 r x
        split
        · exact (ih.cons_cons p).cons_cons s
        · exact (ih.cons p).cons s
      · exact ((go r s x).trans (((List.Sublist.refl _).cons p).cons_cons s))
  go1 : ∀ (r : List Int) (x : Int), (flat (runsV x x r)).Sublist (x :: r)
    | [], x => by
      unfold runsV
      rw [if_neg (Int.lt_irrefl x)]
      exact List.nil_sublist _
    | y :: r, x => by
      unfold runsV
      rw [if_neg (Int.lt_irrefl x)]
      split
      · exact (go1 r y).cons x
      · exact go r x y
theorem runsT_sub (ns : List Int) : (flat (runsT ns)).Sublist ns := by
  cases ns with
  | nil => exact .refl _
  | cons x r => exact runsV_sub.go1 r x
/-- above every height -/
def top (ns : List Int) : Int := ns.foldr max 0
theorem top_le : ∀ {ns : List Int} {x : Int}, x ∈ ns → x ≤ top ns
  | y :: r, x, h => by
    rcases List.mem_cons.mp h with rfl | h
    · simp only [top, List.foldr_cons]; omega
    · have := top_le h; simp only [top, List.foldr_cons] at this ⊢; omega
theorem flat_mem : ∀ {rows : List (Int × Int)} {p : Int × Int}, p ∈ rows → p.1 ∈ flat rows ∧ p.2 ∈ flat rows
  | (a, b) :: r, p, h => by
    rcases List.mem_cons.mp h with rfl | h
    · simp [flat]
    · have := flat_mem h
      simp only [flat]
      exact ⟨by simp [this.1], by simp [this.2]⟩
theorem runs_top {ns : List Int} {W : Int} (hW : ∀ x ∈ ns, x ≤ W) : ∀ p ∈ runsT ns, p.2 ≤ W := fun p hp => hW _ ((runsT_sub ns).subset (flat_mem hp).2)
theorem G_zero {q : Int} : ∀ {xs : List Int}, (∀ x ∈ xs, x ≤ q) → G q xs = 0
  | [], _ => rfl
  | x :: r, h => by
    have := h x (by simp)
    rw [G_cons, G_zero (fun y hy => h y (by simp [hy]))]; omega
theorem G_pos0 : ∀ {xs : List Int}, (∀ x ∈ xs, 0 < x) → G 0 xs = xs.sum
  | [], _ => rfl
  | x :: r, h => by
    have := h x (by simp)
    rw [G_cons, G_pos0 (fun s hs => h s (by simp [hs])), List.sum_cons]; omega
theorem getD_le {x : Int} (hx : 0 < x) : ∀ {r : List Int} (c : Nat), (∀ y ∈ r, y ≤ x) → r.getD c 0 ≤ x
  | [], c, _ => by simp; omega
  | y :: r, 0, h => by simpa using h y (by simp)
  | y :: r, c + 1, h => by simpa using getD_le hx c (fun z hz => h z (by simp [hz]))
theorem G_take : ∀ {S : List Int} (c : Nat), S.Pairwise (· ≥ ·) → (∀ x ∈ S, 0 < x) → G (S.getD c 0) S + (c : Int) * S.getD c 0 = (S.take c).sum
  | [], c, _, _ => by simp [G_nil]
  | x :: r, 0, h, hp => by
    have h' := List.pairwise_cons.mp h
    have : G x (x :: r) = 0 := G_zero fun y hy => by
      rcases List.mem_cons.mp hy with rfl | hy
      · exact Int.le_refl _
      · exact h'.1 y hy
    simp [this]
  | x :: r, c + 1, h, hp => by
    have h' := List.pairwise_cons.mp h
    have ih := G_take (S := r) c h'.2 (fun y hy => hp y (by simp [hy]))
    have hx := hp x (by simp)
    have hle := getD_le hx c h'.1
    rw [List.getD_cons_succ, G_cons, List.take_succ_cons, List.sum_cons, ← ih]
    have e : ((c + 1 : Nat) : Int) * r.getD c 0 = (c : Int) * r.getD c 0 + r.getD c 0 := by rw [Int.natCast_add, Int.add_mul]; simp
    rw [e]; omega
structure Swings (ns S : List Int) : Prop where
  sorted : S.Pairwise (· ≥ ·)
  pos : ∀ x ∈ S, 0 < x
  len : S.length = (runsT ns).length
  half : 2 * S.length ≤ ns.length
  play : ∀ q W, 0 ≤ q → (∀ x ∈ ns, x ≤ W) → upW q W ns = G q S
  some : ∀ c, c ≤ S.length → dp 0 ns c = .some (S.take c).sum
  most : ∀ c d, dp 0 ns c = .some d → d ≤ (S.take c).sum
  att : ∀ c, c ≤ S.length → ∃ rc : List (Int × Int), rc.length = c ∧ (flat rc).Sublist ns ∧ gain rc = (S.take c).sum
theorem getD_nonneg {S : List Int} (hp : ∀ x ∈ S, 0 < x) (c : Nat) : 0 ≤ S.getD c 0 := by
  rw [List.getD_eq_getElem?_getD]
  cases e : S[c]? with
  | none => simp
  | some x => have := hp x (List.mem_of_getElem? e); simp; omega
theorem swings_spec (ns : List Int) : Swings ns (swL ns) := by
  have hW : ∀ x ∈ ns, x ≤ top ns := fun x h => top_le h
  have A := runsT_alt ns
  obtain ⟨a1, a2, a3⟩ := swR_up A (runs_top hW)
  have pm : (swL ns).Perm (swR (runsT ns)) := (List.reverse_perm _).trans (srt_perm _)
  have so : (swL ns).Pairwise (· ≥ ·) := List.pairwise_reverse.mpr (srt_sorted _)
  have po : ∀ x ∈ swL ns, 0 < x := fun x hx => a2 x (pm.mem_iff.mp hx)
  have le : (swL ns).length = (runsT ns).length := pm.length_eq.trans a1
  have pl : ∀ q W, 0 ≤ q → (∀ x ∈ ns, x ≤ W) → upW q W ns = G q (swL ns) := fun q W hq hW => by
    rw [runsT_up hq hW, ← (swR_up A (runs_top hW)).2.2 q hq]
    exact (G_perm q pm).symm
  obtain ⟨S, s1, s2, s3, s4, s5⟩ := peel (W := top ns) _ (runsT ns) rfl (alt_gap A) (runs_top hW)
  have eS : swL ns = S := by
    refine desc_unique (swings_perm po (fun x hx => by have := s3 1 (alt_gap A) x hx; omega) fun q hq => ?_) so s2
    rw [← s4 q hq, ← pl q _ hq hW, runsT_up hq hW]
  have mo : ∀ c d, dp 0 ns c = .some d → d ≤ ((swL ns).take c).sum := fun c d h => by
    have h1 := dp_le (getD_nonneg po c) (W := top ns) ns h
    rw [pl _ _ (getD_nonneg po c) hW, G_take c so po] at h1
    exact h1
  refine ⟨so, po, le, ?_, pl, fun c hc => ?_, mo, fun c hc => ?_⟩
  · have := (runsT_sub ns).length_le
    rw [flat_len] at this; omega
  · obtain ⟨rc, r1, r2, r3⟩ := s5 c (by omega)
    obtain ⟨d, d1, d2⟩ := dp_ge (r2.trans (runsT_sub ns))
    rw [r1] at d1
    have := mo c d d1
    rw [r3, ← eS] at d2
    rw [d1]; congr 1; omega
  · obtain ⟨rc, r1, r2, r3⟩ := s5 c (by omega)
    exact ⟨rc, r1, r2.trans (runsT_sub ns), by rw [r3, ← eS]⟩
end K

namespace K
open PySem
/-! ### runs by their places -/
def runsP (si : Nat) (s : Int) (pi : Nat) (p : Int) : List Int → List (Nat × Nat)
  | [] => if s < p then [(si, pi)] else []
  | x :: r => if x < p then (if s < p then (si, pi) :: runsP (pi + 1) x (pi + 1) x r else runsP (pi + 1) x (pi + 1) x r) else runsP si s (pi + 1) x r
def runsIx : List Int → List (Nat × Nat)
  | [] => []
  | x :: r => runsP 0 x 0 x r
def val2 (ns : List Int) (p : Nat × Nat) : Int × Int := (ns.getD p.1 0, ns.getD p.2 0)
/-- places behind one another -/
def ApartN (k : Nat) : List (Nat × Nat) → Prop
  | [] => True
  | p :: r => k ≤ p.1 ∧ p.1 < p.2 ∧ ApartN p.2 r
theorem ApartN.mono {k k' : Nat} (h : k' ≤ k) : ∀ {rows : List (Nat × Nat)}, ApartN k rows → ApartN k' rows
  | [], _ => trivial
  | p :: r, a => ⟨Nat.le_trans h a.1, a.2⟩
theorem runsP_vals {ns : List Int} : ∀ (r : List Int) (si : Nat) (s : Int) (pi : Nat) (p : Int), ns.getD si 0 = s → ns.getD pi 0 = p → si ≤ pi → pi < ns.length → ns.drop (pi + 1) = r →
    (runsP si s pi p r).map (val2 ns) = runsV s p r ∧ ApartN si (runsP si s pi p r) ∧ ∀ q ∈ runsP si s pi p r, q.2 < ns.length
  | [], si, s, pi, p, h1, h2, h3, h4, h5 => by
    unfold runsP runsV
    split
    · have : si ≠ pi := fun e => by subst e; omega
      exact ⟨by simp only [List.map_cons, List.map_nil, val2, h1, h2], ⟨Nat.le_refl _, by simp only; omega, trivial⟩, fun q hq => by simp only [List.mem_singleton] at hq; subst hq; exact h4⟩
    · exact ⟨rfl, trivial, fun q hq => by simp at hq⟩
  | x :: r, si, s, pi, p, h1, h2, h3, h4, h5 => by
    have h6 : pi + 1 < ns.length := by
      rcases Nat.lt_or_ge (pi + 1) ns.length with q | q
      · exact q
      · rw [List.drop_of_length_le q] at h5; cases h5
    rw [List.drop_eq_getElem_cons h6] at h5
    injection h5 with h7 h8
    have h9 : ns.getD (pi + 1) 0 = x := by rw [List.getD_eq_getElem?_getD, List.getElem?_eq_getElem h6, h7]; rfl
    unfold runsP runsV
    split
    · obtain ⟨a1, a2, a3⟩ := runsP_vals r (pi + 1) x (pi + 1) x h9 h9 (Nat.le_refl _) h6 h8
      split
      · have : si ≠ pi := fun e => by subst e; omega
        refine ⟨by rw [List.map_cons, a1]; simp only [val2, h1, h2], ⟨Nat.le_refl _, by simp only; omega, a2.mono (by simp only; omega)⟩, fun q hq => ?_⟩
        rcases List.mem_cons.mp hq with rfl | hq
        · exact h4
        · exact a3 q hq
      · exact ⟨a1, a2.mono (by omega), a3⟩
    · exact runsP_vals r si s (pi + 1) x h1 h9 (by omega) h6 h8
theorem runsIx_vals (ns : List Int) : (runsIx ns).map (val2 ns) = runsT ns ∧ ApartN 0 (runsIx ns) ∧ ∀ q ∈ runsIx ns, q.2 < ns.length := by
  cases ns with
  | nil => exact ⟨rfl, trivial, fun q hq => by simp [runsIx] at hq⟩
  | cons x r => exact runsP_vals r 0 x 0 x rfl rfl (Nat.le_refl _) (by simp) rfl
theorem apart_fst : ∀ {rows : List (Nat × Nat)} {k m : Nat}, ApartN k rows → (∀ q ∈ rows, q.2 < m) → ∀ q ∈ rows, q.1 < q.2 ∧ q.2 < m
  | p :: r, k, m, a, h, q, hq => by
    rcases List.mem_cons.mp hq with rfl | hq
    · exact ⟨a.2.1, h _ (by simp)⟩
    · exact apart_fst a.2.2 (fun q hq => h q (by simp [hq])) q hq
theorem apart_len : ∀ {rows : List (Nat × Nat)} {k m : Nat}, ApartN k rows → (∀ q ∈ rows, q.2 < m) → k < m → 2 * rows.length < 2 * (m - k)
  | [], k, m, _, _, h => by simp; omega
  | p :: r, k, m, a, h, hk => by
    have h2 := h p (by simp)
    have := apart_len a.2.2 (fun q hq => h q (by simp [hq])) h2
    have h1 := a.1
    have h3 := a.2.1
    simp only [List.length_cons]; omega
theorem runsIx_len (ns : List Int) : (runsIx ns).length = (swL ns).length := by
  rw [(swings_spec ns).len, ← (runsIx_vals ns).1, List.length_map]
/-! ### tables -/
def optD : Option Int → PyData
  | none => .none
  | some h => .int h
def pairD (p : Int × Int) : PyData := .tuple [.int p.1, .int p.2]
def tab (m : Nat) (f : Nat → Option Int) : List PyData := (List.range m).map fun i => optD (f i)
theorem tab_len (m : Nat) (f : Nat → Option Int) : (tab m f).length = m := by simp [tab]
theorem tab_get {m : Nat} {f : Nat → Option Int} {c : Nat} (h : c < m) : (tab m f)[c]? = some (optD (f c)) := by
  simp [tab, h]
theorem tab_set {m : Nat} {f : Nat → Option Int} {c : Nat} {v : Option Int} : (tab m f).set c (optD v) = tab m fun i => if i = c then v else f i := by
  apply List.ext_getElem?
  intro i
  rw [List.getElem?_set]
  simp only [tab, List.length_map, List.length_range, List.getElem?_map]
  by_cases h : c = i
  · subst h
    by_cases h2 : c < m
    · simp [h2]
    · simp [h2]
  · have : i ≠ c := fun e => h e.symm
    rw [if_neg h]
    by_cases hi : i < m
    · simp [hi, this]
    · simp [hi]
theorem tab_eq {m : Nat} {f g : Nat → Option Int} (h : ∀ i, i < m → f i = g i) : tab m f = tab m g := by
  unfold tab
  exact List.map_congr_left fun i hi => by rw [h i (List.mem_range.mp hi)]
def lsw : Int → List (Option Int) → List Int
  | b, [] => []
  | b, none :: r => lsw b r
  | b, some g :: r => if b < g then (g - b) :: lsw g r else lsw b r
theorem lsw_go {ns S : List Int} (H : Swings ns S) : ∀ (k c : Nat), S.length ≤ c + k → lsw (S.take c).sum ((List.range k).map fun i => dp 0 ns (c + 1 + i)) = S.drop c
  | 0, c, h => by rw [List.drop_of_length_le (by omega)]; rfl
  | k + 1, c, h => by
    rw [List.range_succ_eq_map, List.map_cons, List.map_map]
    have e : (List.map ((fun i => dp 0 ns (c + 1 + i)) ∘ Nat.succ) (List.range k)) = (List.range k).map fun i => dp 0 ns (c + 1 + 1 + i) := List.map_congr_left fun i _ => by
      simp only [Function.comp]
      congr 1; omega
    rw [e, Nat.add_zero]
    have ih := lsw_go H k (c + 1) (by omega)
    by_cases hc : c < S.length
    · rw [H.some (c + 1) (by omega)]
      have e2 : (S.take (c + 1)).sum = (S.take c).sum + S[c] := by
        rw [List.take_succ_eq_append_getElem hc, List.sum_append]; simp
      have := H.pos S[c] (List.getElem_mem hc)
      unfold lsw
      rw [if_pos (by omega), ih, List.drop_eq_getElem_cons hc]
      congr 1; omega
    · have e3 : S.take c = S.take (c + 1) := by rw [List.take_of_length_le (by omega), List.take_of_length_le (by omega)]
      rw [List.drop_of_length_le (by omega)] at ih ⊢
      cases ed : dp 0 ns (c + 1) with
      | none => unfold lsw; rw [e3]; exact ih
      | some g =>
        have := H.most (c + 1) g ed
        unfold lsw
        rw [e3, if_neg (by omega)]
        exact ih
theorem lsw_swings (ns : List Int) : lsw 0 ((List.range (ns.length / 2)).map fun i => dp 0 ns (i + 1)) = swL ns := by
  have H := swings_spec ns
  have := lsw_go H (ns.length / 2) 0 (by have := H.half; omega)
  rw [List.drop_zero] at this
  rw [← this]
  congr 1
  exact List.map_congr_left fun i _ => by congr 1; omega
theorem at_int {ns : List Int} {i : Int} (j : Nat) (e : i = (j : Int)) (h : j < ns.length) : L2.atI (ns.map PyData.int) i = some (.int (ns.getD j 0)) := by
  subst e
  refine DL.atI_of (by omega) ?_
  rw [Int.toNat_natCast, List.getElem?_map, List.getD_eq_getElem?_getD, List.getElem?_eq_getElem h]
  rfl
theorem at_tab {m : Nat} {f : Nat → Option Int} {i : Int} (j : Nat) (e : i = (j : Int)) (h : j < m) : L2.atI (tab m f) i = some (optD (f j)) := by
  subst e
  exact DL.atI_of (by omega) (by rw [Int.toNat_natCast]; exact tab_get h)
theorem drop_getD {ns : List Int} {i : Nat} (h : i < ns.length) : ns.drop i = ns.getD i 0 :: ns.drop (i + 1) := by
  rw [List.drop_eq_getElem_cons h, List.getD_eq_getElem?_getD, List.getElem?_eq_getElem h]; rfl
theorem popL_len (low : Int) : ∀ (s : List (Int × Int)) (f : List Int), (popL low s f).1.length + (popL low s f).2.length = s.length + f.length
  | [], f => rfl
  | (l, h) :: t, f => by
    unfold popL; split
    · rw [popL_len low t]; simp; omega
    · rfl
theorem popH_len (high : Int) : ∀ (s : List (Int × Int)) (low : Int) (f : List Int), (popH high low s f).2.1.length + (popH high low s f).2.2.length = s.length + f.length
  | [], low, f => rfl
  | (l, h) :: t, low, f => by
    unfold popH; split
    · rw [popH_len high t]; simp; omega
    · rfl
theorem G_filter (q : Int) : ∀ xs : List Int, ((xs.filter fun x => decide (q < x)).map fun x => x - q).sum = G q xs
  | [] => rfl
  | x :: r => by
    have ih := G_filter q r
    rw [G_cons, List.filter_cons]
    by_cases h : q < x
    · simp only [h, decide_true, if_true, List.map_cons, List.sum_cons, ih]; omega
    · simp only [h, decide_false, if_false, Bool.false_eq_true, ih]; omega
theorem cnt_filter (q : Int) (xs : List Int) : ((xs.filter fun x => decide (q < x)).length : Int) = cnt q xs := by
  unfold cnt; rw [List.countP_eq_length_filter]
theorem swL_len {ns : List Int} : 2 * (swL ns).length ≤ ns.length := (swings_spec ns).half
end K

namespace K
open PySem
theorem cnt_cons (q x : Int) (r : List Int) : cnt q (x :: r) = (if q < x then 1 else 0) + cnt q r := by
  unfold cnt
  rw [List.countP_cons]
  by_cases h : q < x
  · simp only [h, decide_true, if_true]; omega
  · simp only [h, decide_false, if_false, Bool.false_eq_true]; omega
theorem cnt_zero {q : Int} : ∀ {xs : List Int}, (∀ x ∈ xs, x ≤ q) → cnt q xs = 0
  | [], _ => rfl
  | x :: r, h => by
    have := h x (by simp)
    rw [cnt_cons, cnt_zero (fun y hy => h y (by simp [hy])), if_neg (by omega)]; rfl
theorem cnt_nonneg (q : Int) (xs : List Int) : 0 ≤ cnt q xs := by unfold cnt; omega
theorem cnt_le (q : Int) (xs : List Int) : cnt q xs ≤ xs.length := by unfold cnt; have := List.countP_le_length (p := fun x => decide (q < x)) (l := xs); omega
theorem G_nonneg (q : Int) : ∀ xs : List Int, 0 ≤ G q xs
  | [] => by simp [G_nil]
  | x :: r => by have := G_nonneg q r; rw [G_cons]; omega
/-- the first so many above the fee -/
theorem take_cnt {q : Int} : ∀ {S : List Int}, S.Pairwise (· ≥ ·) → ∀ c : Nat, ((c : Int) = cnt q S → (S.take c).sum - (c : Int) * q = G q S) ∧ ((c : Int) < cnt q S → (S.take c).sum - (c : Int) * q < G q S)
  | [], _, c => by
    have : cnt q [] = 0 := rfl
    refine ⟨fun h => ?_, fun h => by omega⟩
    have : c = 0 := by omega
    subst this; simp [G_nil]
  | x :: r, h, c => by
    have h' := List.pairwise_cons.mp h
    by_cases hx : q < x
    · rw [cnt_cons, if_pos hx, G_cons]
      have hn := cnt_nonneg q r
      have gn := G_nonneg q r
      cases c with
      | zero =>
        refine ⟨fun h => by omega, fun _ => ?_⟩
        simp; omega
      | succ c =>
        have ih := take_cnt h'.2 c (q := q)
        have e : ((c + 1 : Nat) : Int) * q = (c : Int) * q + q := by rw [Int.natCast_add, Int.add_mul]; simp
        rw [List.take_succ_cons, List.sum_cons, e]
        refine ⟨fun h => ?_, fun h => ?_⟩
        · have := ih.1 (by omega); omega
        · have := ih.2 (by omega); omega
    · have hz : ∀ y ∈ x :: r, y ≤ q := fun y hy => by
        rcases List.mem_cons.mp hy with rfl | hy
        · omega
        · have := h'.1 y hy; omega
      rw [cnt_zero hz, G_zero hz]
      refine ⟨fun h => ?_, fun h => by omega⟩
      have : c = 0 := by omega
      subst this; simp
theorem up_flat {q W : Int} (hq : 0 ≤ q) : ∀ {ns : List Int}, (∀ x ∈ ns, x ≤ W ∧ W ≤ x + q) → upW q W ns = 0
  | [], _ => rfl
  | x :: r, h => by
    have hx := h x (by simp)
    have e : stp q W x = W := by unfold stp; omega
    simp only [upW]
    rw [e, up_flat hq (fun y hy => h y (by simp [hy]))]
    unfold up1; omega
/-- no swing is greater than the track is high -/
theorem swing_le {ns : List Int} {B : Int} (hB : 0 ≤ B) (h : ∀ x ∈ ns, -B ≤ x ∧ x ≤ B) : ∀ s ∈ swL ns, s ≤ 2 * B := by
  have e := (swings_spec ns).play (2 * B) B (by omega) (fun x hx => (h x hx).2)
  rw [up_flat (by omega) (fun x hx => by have := h x hx; omega)] at e
  intro s hs
  have : ∀ xs : List Int, G (2 * B) xs = 0 → ∀ s ∈ xs, s ≤ 2 * B := by
    intro xs
    induction xs with
    | nil => intro _ s hs; simp at hs
    | cons x r ih =>
      intro h0 s hs
      rw [G_cons] at h0
      have := G_nonneg (2 * B) r
      rcases List.mem_cons.mp hs with rfl | hs
      · omega
      · exact ih (by omega) s hs
  exact this _ e.symm s hs
theorem dp_fee_le {ns : List Int} {fee : Int} (hf : 0 ≤ fee) {c : Nat} {d : Int} (h : dp fee ns c = some d) : d ≤ G fee (swL ns) := by
  rw [dp_fee] at h
  unfold shf at h
  cases e : dp 0 ns c with
  | none => rw [e] at h; cases h
  | some d0 =>
    rw [e] at h
    simp only [Option.map_some, Option.some.injEq] at h
    have := dp_le hf (W := top ns) ns e
    rw [(swings_spec ns).play fee (top ns) hf (fun x h => top_le h)] at this
    omega
theorem dp_fee_at {ns : List Int} {fee : Int} {c : Nat} (hc : c ≤ (swL ns).length) : dp fee ns c = some (((swL ns).take c).sum - (c : Int) * fee) := by
  rw [dp_fee]; unfold shf; rw [(swings_spec ns).some c hc]; rfl
def live (f : Nat → Option Int) (m : Nat) : List Nat := (List.range m).filter fun i => (f i).isSome
theorem best_is {ns : List Int} {fee : Int} (hf : 0 ≤ fee) {m : Nat} (hm : m = ns.length / 2 + 1) {v : Int} (h1 : v ∈ (live (dp fee ns) m).map fun i => (dp fee ns i).getD 0) (h2 : ∀ y ∈ (live (dp fee ns) m).map fun i => (dp fee ns i).getD 0, y ≤ v) : v = G fee (swL ns) := by
  have S := swings_spec ns
  obtain ⟨c, hc⟩ : ∃ c : Nat, (c : Int) = cnt fee (swL ns) := ⟨_, rfl⟩
  have cl := cnt_le fee (swL ns)
  have half := S.half
  have e := dp_fee_at (ns := ns) (fee := fee) (c := c) (by omega)
  rw [(take_cnt S.sorted c).1 hc] at e
  have a := h2 (G fee (swL ns)) (List.mem_map.mpr ⟨c, List.mem_filter.mpr ⟨List.mem_range.mpr (by omega), by rw [e]; rfl⟩, by rw [e]; rfl⟩)
  obtain ⟨i, hi, rfl⟩ := List.mem_map.mp h1
  have hi := (List.mem_filter.mp hi).2
  cases ei : dp fee ns i with
  | none => rw [ei] at hi; cases hi
  | some d =>
    rw [ei] at a
    have := dp_fee_le hf ei
    simp only [Option.getD_some] at a ⊢; omega
theorem fewest_is {ns : List Int} {fee : Int} (hf : 0 ≤ fee) {m : Nat} (hm : m = ns.length / 2 + 1) {v : Int} (h1 : v ∈ ((live (dp fee ns) m).filter fun i => decide ((dp fee ns i).getD 0 = G fee (swL ns))).map fun (i : Nat) => (i : Int))
    (h2 : ∀ y ∈ ((live (dp fee ns) m).filter fun i => decide ((dp fee ns i).getD 0 = G fee (swL ns))).map fun (i : Nat) => (i : Int), v ≤ y) : v = cnt fee (swL ns) := by
  have S := swings_spec ns
  obtain ⟨c, hc⟩ : ∃ c : Nat, (c : Int) = cnt fee (swL ns) := ⟨_, rfl⟩
  have cl := cnt_le fee (swL ns)
  have half := S.half
  have e := dp_fee_at (ns := ns) (fee := fee) (c := c) (by omega)
  rw [(take_cnt S.sorted c).1 hc] at e
  have a := h2 (c : Int) (List.mem_map.mpr ⟨c, List.mem_filter.mpr ⟨List.mem_filter.mpr ⟨List.mem_range.mpr (by omega), by rw [e]; rfl⟩, by rw [e]; simp⟩, rfl⟩)
  obtain ⟨i, hi, rfl⟩ := List.mem_map.mp h1
  have hi := (List.mem_filter.mp hi).2
  simp only [decide_eq_true_eq] at hi
  by_cases hlt : (i : Int) < cnt fee (swL ns)
  · have e2 := dp_fee_at (ns := ns) (fee := fee) (c := i) (by omega)
    have := (take_cnt (q := fee) S.sorted i).2 hlt
    rw [e2] at hi
    simp only [Option.getD_some] at hi; omega
  · omega
theorem live_ne {ns : List Int} {fee : Int} (m : Nat) : 0 < (live (dp fee ns) (m + 1)).length := by
  have : 0 ∈ live (dp fee ns) (m + 1) := List.mem_filter.mpr ⟨List.mem_range.mpr (by omega), by rw [dp_fee_at (by omega)]; rfl⟩
  exact List.length_pos_of_mem this
theorem few_ne {ns : List Int} {fee : Int} {m : Nat} (hm : m = ns.length / 2 + 1) : 0 < ((live (dp fee ns) m).filter fun i => decide ((dp fee ns i).getD 0 = G fee (swL ns))).length := by
  have S := swings_spec ns
  obtain ⟨c, hc⟩ : ∃ c : Nat, (c : Int) = cnt fee (swL ns) := ⟨_, rfl⟩
  have cl := cnt_le fee (swL ns)
  have half := S.half
  have e := dp_fee_at (ns := ns) (fee := fee) (c := c) (by omega)
  rw [(take_cnt S.sorted c).1 hc] at e
  exact List.length_pos_of_mem (a := c) (List.mem_filter.mpr ⟨List.mem_filter.mpr ⟨List.mem_range.mpr (by omega), by rw [e]; rfl⟩, by rw [e]; simp⟩)
theorem enum_tab (m : Nat) (f : Nat → Option Int) : DL.enumD (tab m f) = (List.range m).map fun (i : Nat) => PyData.tuple [.int (i : Int), optD (f i)] := by
  unfold DL.enumD
  apply List.ext_getElem?
  intro i
  rw [List.getElem?_map, List.getElem?_zipIdx, List.getElem?_map]
  by_cases h : i < m
  · rw [tab_get h]; simp [h]
  · have h1 : (tab m f)[i]? = none := by rw [List.getElem?_eq_none_iff, tab_len]; omega
    rw [h1]; simp [h]
def rcnt (p : Int) (b : Bool) : List Int → Nat
  | [] => 0
  | x :: r => if p < x then (if b = true then rcnt x true r else rcnt x true r + 1) else if x < p then rcnt x false r else rcnt x b r
theorem rcnt_runs : ∀ (r : List Int) (s p : Int), s ≤ p → (runsV s p r).length = (if s < p then 1 else 0) + rcnt p (decide (s < p)) r
  | [], s, p, h => by
    unfold runsV rcnt; split <;> rfl
  | x :: r, s, p, h => by
    unfold runsV rcnt
    by_cases h1 : x < p
    · have h2 : ¬ p < x := by omega
      have ih := rcnt_runs r x x (Int.le_refl _)
      rw [if_neg (Int.lt_irrefl x), decide_eq_false (Int.lt_irrefl x)] at ih
      rw [if_pos h1, if_neg h2, if_pos h1]
      split
      · rw [List.length_cons, ih]; omega
      · rw [ih]
    · rw [if_neg h1, rcnt_runs r s x (by omega)]
      by_cases h2 : p < x
      · have h3 : s < x := by omega
        rw [if_pos h3, if_pos h2, decide_eq_true h3]
        by_cases h4 : s < p
        · rw [if_pos h4, decide_eq_true h4, if_pos rfl]
        · rw [if_neg h4, decide_eq_false h4, if_neg (by decide)]; omega
      · have h3 : x = p := by omega
        subst h3
        rw [if_neg h2, if_neg h1]
theorem rcnt_swings (x : Int) (r : List Int) : rcnt x false r = (swL (x :: r)).length := by
  rw [(swings_spec (x :: r)).len]
  show _ = (runsV x x r).length
  rw [rcnt_runs r x x (Int.le_refl _), if_neg (Int.lt_irrefl x), decide_eq_false (Int.lt_irrefl x)]
  omega
end K

namespace K
/-! ### the best gains and what climbs tell of them -/
def best (c : Nat) (ns : List Int) : Int := ((swL ns).take c).sum
theorem best_ge {ns : List Int} {rows : List (Int × Int)} (h : (flat rows).Sublist ns) : gain rows ≤ best rows.length ns := by
  obtain ⟨d, d1, d2⟩ := dp_ge h
  have := (swings_spec ns).most _ _ d1
  unfold best; omega
theorem take_mono : ∀ {S : List Int}, (∀ x ∈ S, 0 < x) → ∀ {c c' : Nat}, c ≤ c' → (S.take c).sum ≤ (S.take c').sum
  | [], _, c, c', _ => by simp
  | x :: r, h, 0, 0, _ => by simp
  | x :: r, h, 0, c' + 1, _ => by
    have hx := h x (by simp)
    have := take_mono (S := r) (fun y hy => h y (by simp [hy])) (Nat.zero_le c')
    simp only [List.take_zero, List.sum_nil, List.take_succ_cons, List.sum_cons] at this ⊢; omega
  | x :: r, h, c + 1, 0, e => by omega
  | x :: r, h, c + 1, c' + 1, e => by
    have := take_mono (S := r) (fun y hy => h y (by simp [hy])) (Nat.le_of_succ_le_succ e)
    simp only [List.take_succ_cons, List.sum_cons]; omega
theorem best_mono (ns : List Int) {c c' : Nat} (h : c ≤ c') : best c ns ≤ best c' ns := take_mono (swings_spec ns).pos h
theorem best_at (ns : List Int) (c : Nat) : ∃ rows : List (Int × Int), rows.length ≤ c ∧ (flat rows).Sublist ns ∧ gain rows = best c ns := by
  have S := swings_spec ns
  by_cases h : c ≤ (swL ns).length
  · obtain ⟨rc, r1, r2, r3⟩ := S.att c h
    exact ⟨rc, by omega, r2, r3⟩
  · obtain ⟨rc, r1, r2, r3⟩ := S.att _ (Nat.le_refl _)
    refine ⟨rc, by omega, r2, ?_⟩
    unfold best
    rw [r3, List.take_length, List.take_of_length_le (by omega)]
theorem best_tr {ns ms : List Int} {k : Int} (hk : 0 ≤ k) (h : ∀ rows, (flat rows).Sublist ns → ∃ rows' : List (Int × Int), rows'.length = rows.length ∧ (flat rows').Sublist ms ∧ gain rows ≤ gain rows' + k * (rows.length : Int)) (c : Nat) : best c ns ≤ best c ms + k * (c : Int) := by
  obtain ⟨rows, r1, r2, r3⟩ := best_at ns c
  obtain ⟨rows', q1, q2, q3⟩ := h rows r2
  have h1 := best_ge q2
  have h2 := best_mono ms (show rows'.length ≤ c by omega)
  have h3 : k * (rows.length : Int) ≤ k * (c : Int) := Int.mul_le_mul_of_nonneg_left (by omega) hk
  omega
theorem best_sub {ns ms : List Int} (h : ns.Sublist ms) (c : Nat) : best c ns ≤ best c ms := by
  have := best_tr (ns := ns) (ms := ms) (k := 0) (Int.le_refl _) (fun rows hr => ⟨rows, rfl, hr.trans h, by omega⟩) c
  omega
theorem sums_eq : ∀ {A B : List Int}, (∀ x ∈ A, 0 < x) → (∀ x ∈ B, 0 < x) → (∀ c, (A.take c).sum = (B.take c).sum) → A = B
  | [], [], _, _, _ => rfl
  | [], b :: B, _, hb, h => by
    have := h 1
    have := hb b (by simp)
    simp at *; omega
  | a :: A, [], ha, _, h => by
    have := h 1
    have := ha a (by simp)
    simp at *; omega
  | a :: A, b :: B, ha, hb, h => by
    have h1 := h 1
    simp only [List.take_succ_cons, List.take_zero, List.sum_cons, List.sum_nil, Int.add_zero] at h1
    subst h1
    have e : A = B := sums_eq (fun x hx => ha x (by simp [hx])) (fun x hx => hb x (by simp [hx])) fun c => by
      have := h (c + 1)
      simp only [List.take_succ_cons, List.sum_cons] at this; omega
    rw [e]
theorem swL_best {ns ms : List Int} (h : ∀ c, best c ns = best c ms) : swL ns = swL ms := sums_eq (swings_spec ns).pos (swings_spec ms).pos h
theorem swL_play {ns ms : List Int} (h : ∀ q W, 0 ≤ q → (∀ x ∈ ns, x ≤ W) → (∀ x ∈ ms, x ≤ W) → upW q W ns = upW q W ms) : swL ns = swL ms := by
  have S := swings_spec ns
  have T := swings_spec ms
  refine desc_unique (swings_perm S.pos T.pos fun q hq => ?_) S.sorted T.sorted
  have h1 : ∀ x ∈ ns, x ≤ max (top ns) (top ms) := fun x hx => by have := top_le hx; omega
  have h2 : ∀ x ∈ ms, x ≤ max (top ns) (top ms) := fun x hx => by have := top_le hx; omega
  rw [← S.play q _ hq h1, ← T.play q _ hq h2]
  exact h q _ hq h1 h2
/-! ### changed heights -/
inductive Near (w : Int) : List Int → List Int → Prop
  | nil : Near w [] []
  | cons {a b : Int} {r t : List Int} : a - b ≤ w → b - a ≤ w → Near w r t → Near w (a :: r) (b :: t)
theorem Near.symm {w : Int} {a b : List Int} (h : Near w a b) : Near w b a := by
  induction h with
  | nil => exact .nil
  | cons h1 h2 _ ih => exact .cons h2 h1 ih
theorem near_sub {w : Int} : ∀ {ns ms l : List Int}, Near w ns ms → l.Sublist ns → ∃ l', Near w l l' ∧ l'.Sublist ms
  | [], _, l, .nil, h => by
    cases h; exact ⟨[], .nil, .refl _⟩
  | a :: r, b :: t, l, .cons h1 h2 h3, h => by
    cases h with
    | cons _ h =>
      obtain ⟨l', n, s⟩ := near_sub h3 h
      exact ⟨l', n, s.cons b⟩
    | cons_cons _ h =>
      obtain ⟨l', n, s⟩ := near_sub h3 h
      exact ⟨b :: l', .cons h1 h2 n, s.cons_cons b⟩
theorem near_flat {w : Int} : ∀ {rows : List (Int × Int)} {l : List Int}, Near w (flat rows) l → ∃ rows', l = flat rows' ∧ rows'.length = rows.length ∧ gain rows ≤ gain rows' + 2 * w * (rows.length : Int)
  | [], _, .nil => ⟨[], rfl, rfl, by simp⟩
  | (a, b) :: r, _, .cons (b := a') h1 h2 (.cons (b := b') h3 h4 h5) => by
    obtain ⟨rows', e, el, eg⟩ := near_flat h5
    subst e
    refine ⟨(a', b') :: rows', rfl, by simp [el], ?_⟩
    rw [gain_cons, gain_cons]
    have : 2 * w * (((a, b) :: r).length : Int) = 2 * w * (r.length : Int) + 2 * w := by rw [List.length_cons, Int.natCast_add, Int.mul_add]; simp
    rw [this]; simp only; omega
theorem best_near {w : Int} (hw : 0 ≤ w) {ns ms : List Int} (h : Near w ns ms) (c : Nat) : best c ns ≤ best c ms + 2 * w * (c : Int) :=
  best_tr (by omega) (fun rows hr => by
    obtain ⟨l, n, s⟩ := near_sub h hr
    obtain ⟨rows', rfl, el, eg⟩ := near_flat n
    exact ⟨rows', el, s, eg⟩) c
/-! ### heights that change nothing -/
theorem swL_between {a m b : Int} (pre post : List Int) (h : (a ≤ m ∧ m ≤ b) ∨ (b ≤ m ∧ m ≤ a)) : swL (pre ++ a :: m :: b :: post) = swL (pre ++ a :: b :: post) := by
  refine swL_play fun q W hq _ _ => ?_
  rw [upW_app, upW_app]
  generalize runW q W pre = w
  have e1 : stp q (stp q (stp q w a) m) b = stp q (stp q w a) b := by unfold stp; omega
  have e2 : up1 w a + (up1 (stp q w a) m + up1 (stp q (stp q w a) m) b) = up1 w a + up1 (stp q w a) b := by unfold up1 stp; omega
  simp only [upW]
  rw [e1]; omega
theorem swL_again {a : Int} (pre post : List Int) : swL (pre ++ a :: a :: post) = swL (pre ++ a :: post) := by
  refine swL_play fun q W hq _ _ => ?_
  rw [upW_app, upW_app]
  generalize runW q W pre = w
  have e1 : stp q (stp q w a) a = stp q w a := by unfold stp; omega
  have e2 : up1 (stp q w a) a = 0 := by unfold up1 stp; omega
  simp only [upW]
  rw [e1, e2]; omega
/-! ### stretched and shifted -/
theorem flat_map (f : Int → Int) : ∀ rows : List (Int × Int), (flat rows).map f = flat (rows.map fun p => (f p.1, f p.2))
  | [] => rfl
  | (a, b) :: r => by simp only [flat, List.map_cons, flat_map f r]
theorem flat_of_map {f : Int → Int} : ∀ {rows : List (Int × Int)} {l : List Int}, flat rows = l.map f → ∃ rows', l = flat rows' ∧ rows = rows'.map fun p => (f p.1, f p.2)
  | [], [], _ => ⟨[], rfl, rfl⟩
  | [], _ :: _, h => by simp [flat] at h
  | (a, b) :: r, [], h => by simp [flat] at h
  | (a, b) :: r, [x], h => by simp [flat] at h
  | (a, b) :: r, x :: y :: l, h => by
    simp only [flat, List.map_cons, List.cons.injEq] at h
    obtain ⟨h1, h2, h3⟩ := h
    obtain ⟨rows', e1, e2⟩ := flat_of_map h3
    exact ⟨(x, y) :: rows', by rw [e1]; rfl, by rw [e2, h1, h2]; rfl⟩
theorem gain_scale (k s : Int) : ∀ rows : List (Int × Int), gain (rows.map fun p => (k * p.1 + s, k * p.2 + s)) = k * gain rows
  | [] => by simp [gain]
  | (a, b) :: r => by
    rw [List.map_cons, gain_cons, gain_cons, gain_scale k s r, Int.mul_add, Int.mul_sub]; simp only; omega
theorem best_scale {k s : Int} (hk : 0 ≤ k) (ns : List Int) (c : Nat) : best c (ns.map fun x => k * x + s) = k * best c ns := by
  apply Int.le_antisymm
  · obtain ⟨rows, r1, r2, r3⟩ := best_at (ns.map fun x => k * x + s) c
    obtain ⟨l, h1, h2⟩ := List.sublist_map_iff.mp r2
    obtain ⟨rows', rfl, rfl⟩ := flat_of_map h2
    rw [← r3, gain_scale]
    rw [List.length_map] at r1
    exact Int.mul_le_mul_of_nonneg_left (Int.le_trans (best_ge h1) (best_mono ns r1)) hk
  · obtain ⟨rows, r1, r2, r3⟩ := best_at ns c
    rw [← r3, ← gain_scale k s]
    have h := r2.map fun x => k * x + s
    rw [flat_map] at h
    have h1 := best_ge h
    rw [List.length_map] at h1
    exact Int.le_trans h1 (best_mono _ r1)
theorem sum_scale (k : Int) : ∀ xs : List Int, (xs.map fun x => k * x).sum = k * xs.sum
  | [] => by simp
  | x :: r => by simp only [List.map_cons, List.sum_cons, sum_scale k r, Int.mul_add]
theorem swL_scale {k s : Int} (hk : 0 < k) (ns : List Int) : swL (ns.map fun x => k * x + s) = (swL ns).map fun x => k * x := by
  refine sums_eq (swings_spec _).pos (fun x hx => ?_) fun c => ?_
  · obtain ⟨y, hy, rfl⟩ := List.mem_map.mp hx
    exact Int.mul_pos hk ((swings_spec ns).pos y hy)
  · have := best_scale (s := s) (Int.le_of_lt hk) ns c
    unfold best at this
    rw [this, ← List.map_take, sum_scale]
theorem near_snoc {w a b : Int} (h1 : a - b ≤ w) (h2 : b - a ≤ w) {r t : List Int} (h : Near w r t) : Near w (r ++ [a]) (t ++ [b]) := by
  induction h with
  | nil => exact .cons h1 h2 .nil
  | cons g1 g2 _ ih => exact .cons g1 g2 ih
theorem near_len {w : Int} {a b : List Int} (h : Near w a b) : a.length = b.length := by
  induction h with
  | nil => rfl
  | cons _ _ _ ih => simp [ih]
theorem near_bound {w B : Int} {a b : List Int} (h : Near w a b) (hb : ∀ x ∈ a, -B ≤ x ∧ x ≤ B) : ∀ x ∈ b, -(B + w) ≤ x ∧ x ≤ B + w := by
  induction h with
  | nil => intro x hx; simp at hx
  | cons h1 h2 _ ih =>
    intro x hx
    rcases List.mem_cons.mp hx with rfl | hx
    · have := hb _ (List.mem_cons_self); omega
    · exact ih (fun y hy => hb y (by simp [hy])) x hx
theorem split_at {ns : List Int} {k : Nat} (h1 : 1 ≤ k) (h2 : k < ns.length) : ns = ns.take (k - 1) ++ ns.getD (k - 1) 0 :: ns.getD k 0 :: ns.drop (k + 1) ∧ ns.take k = ns.take (k - 1) ++ [ns.getD (k - 1) 0] ∧ ns.drop k = ns.getD k 0 :: ns.drop (k + 1) := by
  have e1 := drop_getD (ns := ns) (i := k - 1) (by omega)
  have e2 := drop_getD (ns := ns) (i := k) (by omega)
  have e3 : k - 1 + 1 = k := by omega
  rw [e3] at e1
  refine ⟨by rw [← e2, ← e1, List.take_append_drop], ?_, e2⟩
  have e4 := List.take_succ_eq_append_getElem (l := ns) (i := k - 1) (by omega)
  rw [e3] at e4
  rw [e4, List.getD_eq_getElem?_getD, List.getElem?_eq_getElem (by omega)]
  rfl
theorem ins_between {ns : List Int} {k : Nat} {m : Int} (h1 : 1 ≤ k) (h2 : k < ns.length) (h : (ns.getD (k - 1) 0 ≤ m ∧ m ≤ ns.getD k 0) ∨ (ns.getD k 0 ≤ m ∧ m ≤ ns.getD (k - 1) 0)) : swL (ns.take k ++ [m] ++ ns.drop k) = swL ns := by
  obtain ⟨e1, e2, e3⟩ := split_at h1 h2
  conv => rhs; rw [e1]
  rw [e2, e3]
  have := swL_between (ns.take (k - 1)) (ns.drop (k + 1)) h
  rw [← this]
  simp
theorem del_le (ns : List Int) (k c : Nat) : best c (ns.take k ++ ns.drop (k + 1)) ≤ best c ns := by
  refine best_sub ?_ c
  have e : ns.Sublist ns := .refl _
  have h : (ns.drop (k + 1)).Sublist (ns.drop k) := by
    rw [← List.drop_drop]; exact List.drop_sublist _ _
  have := h.append_left (ns.take k)
  rwa [List.take_append_drop] at this
theorem ins_ge (ns : List Int) (k c : Nat) (x : Int) : best c ns ≤ best c (ns.take k ++ [x] ++ ns.drop k) := by
  refine best_sub ?_ c
  have h : (ns.take k ++ ns.drop k).Sublist (ns.take k ++ ([x] ++ ns.drop k)) := List.Sublist.append_left ((List.Sublist.refl _).cons x) _
  rw [List.take_append_drop, ← List.append_assoc] at h
  exact h
theorem swL_last {ns : List Int} (h : 1 ≤ ns.length) : swL (ns ++ ns.drop (ns.length - 1)) = swL ns := by
  have e1 : ns.drop (ns.length - 1) = [ns.getD (ns.length - 1) 0] := by
    rw [drop_getD (by omega), List.drop_of_length_le (by omega)]
  have e2 : ns = ns.take (ns.length - 1) ++ [ns.getD (ns.length - 1) 0] := by
    rw [← e1, List.take_append_drop]
  rw [e1]
  generalize ns.getD (ns.length - 1) 0 = a at e1 e2
  rw [e2]
  have := swL_again (a := a) (ns.take (ns.length - 1)) []
  rw [List.append_assoc]
  exact this
theorem swL_first (ns : List Int) : swL (ns.take 1 ++ ns) = swL ns := by
  cases ns with
  | nil => rfl
  | cons x r => exact swL_again (a := x) [] r
theorem srt_two (a b : Int) : DL.srt [a, b] = [min a b, max a b] := by
  show DL.ins a [b] = _
  unfold DL.ins
  split
  · have : min a b = a := by omega
    have : max a b = b := by omega
    simp [*]
  · have : min a b = b := by omega
    have : max a b = a := by omega
    simp [*, DL.ins]
open PySem PySem.Spec PyProof.Rows L2 DL in
theorem cut_m1 {α : Type} {l : List α} (h : 1 ≤ l.length) : cutL l (some (-1)) none = l.drop (l.length - 1) := by
  unfold cutL
  rw [HT.sIx_none]
  have e : HT.sIx l.length 0 (some (-1)) = l.length - 1 := by
    unfold HT.sIx
    simp; omega
  rw [e]
  exact List.take_of_length_le (by simp)
end K

namespace K
/-! ### the watch counts the swings above its threshold -/
structure Wat (t W : Int) (p : List Int) (s : WL) : Prop where
  ex : ∃ cs : List (Int × Int), (flat cs ++ [s.low]).Sublist p ∧
    ((s.high = none ∧ s.climbs = cs ∧ runW t W p = s.low + t) ∨ (∃ hi, s.high = some hi ∧ s.climbs = cs ++ [(s.low, hi)] ∧ runW t W p = hi ∧ (flat s.climbs).Sublist p))
  up : gain s.climbs = upW t W p + t * (s.climbs.length : Int)
theorem wat_step {t W : Int} (ht : 0 ≤ t) {p : List Int} {s : WL} (h : Wat t W p s) (x : Int) : Wat t W (p ++ [x]) (watchStep t s x) := by
  obtain ⟨⟨cs, hs, hc⟩, hu⟩ := h
  have r1 : runW t W (p ++ [x]) = stp t (runW t W p) x := by rw [runW_app]; rfl
  have u1 : upW t W (p ++ [x]) = upW t W p + up1 (runW t W p) x := by rw [upW_app]; simp [upW]
  have sx : (flat cs ++ [x]).Sublist (p ++ [x]) := by
    have : (flat cs).Sublist p := (List.sublist_append_left _ _).trans hs
    exact this.append (.refl _)
  have s0 : (flat cs ++ [s.low]).Sublist (p ++ [x]) := hs.trans (List.sublist_append_left _ _)
  obtain ⟨low, high, climbs, shows⟩ := s
  rcases hc with ⟨e1, e2, e3⟩ | ⟨hi, e1, e2, e3, e4⟩
  · simp only at e1 e2 e3 hs s0 hu
    subst e1 e2
    rw [e3] at r1 u1
    by_cases hx : (if x < low then x else low) + t < x
    · have hl : ¬ x < low := fun z => by rw [if_pos z] at hx; omega
      rw [if_neg hl] at hx
      have ew : watchStep t ⟨low, none, climbs, shows⟩ x = ⟨low, some x, climbs ++ [(low, x)], shows ++ [sumW (climbs ++ [(low, x)])]⟩ := by simp [watchStep, hl, hx]
      rw [ew]
      refine ⟨⟨climbs, s0, .inr ⟨x, rfl, rfl, by rw [r1]; unfold stp; omega, ?_⟩⟩, ?_⟩
      · simp only [flat_app]
        have : flat [(low, x)] = [low] ++ [x] := rfl
        rw [this, ← List.append_assoc]
        exact hs.append (.refl _)
      · simp only [gain_app, List.length_append, List.length_cons, List.length_nil]
        rw [u1, hu]
        have : gain [(low, x)] = x - low := by simp [gain]
        rw [this, Int.natCast_add, Int.mul_add]
        unfold up1; simp; omega
    · have ew : watchStep t ⟨low, none, climbs, shows⟩ x = ⟨if x < low then x else low, none, climbs, shows ++ [sumW climbs]⟩ := by simp [watchStep, hx]
      rw [ew]
      refine ⟨⟨climbs, ?_, .inl ⟨rfl, rfl, ?_⟩⟩, ?_⟩
      · simp only
        split
        · exact sx
        · exact s0
      · rw [r1]; simp only; unfold stp; split at hx <;> rename_i z
        · rw [if_pos z]; omega
        · rw [if_neg z]; omega
      · rw [u1]
        simp only
        have : up1 (low + t) x = 0 := by unfold up1; split at hx <;> omega
        rw [this, hu]; omega
  · simp only at e1 e2 e3 e4 hs s0 hu
    subst e1
    rw [e3] at r1 u1
    by_cases h1 : x < hi - t
    · have ew : watchStep t ⟨low, some hi, climbs, shows⟩ x = ⟨x, none, climbs, shows ++ [sumW climbs]⟩ := by simp [watchStep, h1]
      rw [ew]
      refine ⟨⟨climbs, e4.append (.refl _), .inl ⟨rfl, rfl, by rw [r1]; simp only; unfold stp; omega⟩⟩, ?_⟩
      rw [u1]
      have : up1 hi x = 0 := by unfold up1; omega
      rw [this]; simp only; rw [hu]; omega
    · by_cases h2 : hi < x
      · have ew : watchStep t ⟨low, some hi, climbs, shows⟩ x = ⟨low, some x, cs ++ [(low, x)], shows ++ [sumW (cs ++ [(low, x)])]⟩ := by
          simp [watchStep, h1, h2, e2]
        rw [ew]
        refine ⟨⟨cs, s0, .inr ⟨x, rfl, rfl, by rw [r1]; unfold stp; omega, ?_⟩⟩, ?_⟩
        · simp only [flat_app]
          have : flat [(low, x)] = [low] ++ [x] := rfl
          rw [this, ← List.append_assoc]
          exact hs.append (.refl _)
        · rw [u1]
          subst e2
          simp only [gain_app, List.length_append, List.length_cons, List.length_nil] at hu ⊢
          have g1 : gain [(low, x)] = x - low := by simp [gain]
          have g2 : gain [(low, hi)] = hi - low := by simp [gain]
          rw [g2] at hu
          rw [g1]
          have : up1 hi x = x - hi := by unfold up1; omega
          rw [this]; omega
      · have ew : watchStep t ⟨low, some hi, climbs, shows⟩ x = ⟨low, some hi, climbs, shows ++ [sumW climbs]⟩ := by simp [watchStep, h1, h2]
        rw [ew]
        refine ⟨⟨cs, s0, .inr ⟨hi, rfl, e2, by rw [r1]; unfold stp; omega, e4.trans (List.sublist_append_left _ _)⟩⟩, ?_⟩
        rw [u1]
        have : up1 hi x = 0 := by unfold up1; omega
        rw [this]; simp only; rw [hu]; omega
theorem wat_run {t W : Int} (ht : 0 ≤ t) : ∀ (r p : List Int) (s : WL), Wat t W p s → Wat t W (p ++ r) (r.foldl (watchStep t) s)
  | [], p, s, h => by simpa using h
  | x :: r, p, s, h => by
    have := wat_run ht r (p ++ [x]) _ (wat_step ht h x)
    rw [List.foldl_cons]
    simpa using this
theorem wat_all {t W : Int} (ht : 0 ≤ t) {ns : List Int} (hn : 1 ≤ ns.length) (hW : ∀ x ∈ ns, x + t ≤ W) : Wat t W ns (watchL ns t) := by
  cases ns with
  | nil => simp at hn
  | cons h r =>
    have hw := hW h (by simp)
    unfold watchL
    show Wat t W (h :: r) ((h :: r).foldl (watchStep t) ⟨h, none, [], []⟩)
    rw [List.foldl_cons, watch_first h t ht]
    refine wat_run ht r [h] _ ⟨⟨[], .refl _, .inl ⟨rfl, rfl, ?_⟩⟩, ?_⟩
    · simp only [runW]; unfold stp; omega
    · simp only [upW]; unfold up1
      have : max 0 (h - W) = 0 := by omega
      rw [this]; simp [gain]
theorem wat_sub {t W : Int} {p : List Int} {s : WL} (h : Wat t W p s) : (flat s.climbs).Sublist p := by
  obtain ⟨⟨cs, hs, hc⟩, _⟩ := h
  rcases hc with ⟨_, e, _⟩ | ⟨_, _, _, _, e⟩
  · rw [e]; exact (List.sublist_append_left _ _).trans hs
  · exact e
/-- doubled heights, a threshold between -/
theorem watch_double (t : Int) : ∀ (r : List Int) (s s' : WL), s'.low = 2 * s.low → s'.high = s.high.map (2 * ·) → s'.climbs = s.climbs.map (fun p => (2 * p.1, 2 * p.2)) →
    ((r.map (2 * ·)).foldl (watchStep (2 * t + 1)) s').climbs.length = (r.foldl (watchStep t) s).climbs.length
  | [], s, s', _, _, h3 => by simp [h3]
  | x :: r, s, s', h1, h2, h3 => by
    rw [List.map_cons, List.foldl_cons, List.foldl_cons]
    obtain ⟨low, high, climbs, shows⟩ := s
    obtain ⟨low', high', climbs', shows'⟩ := s'
    simp only at h1 h2 h3
    subst h1 h2 h3
    cases high with
    | none =>
      simp only [Option.map_none]
      by_cases hl : x < low
      · have hl' : 2 * x < 2 * low := by omega
        by_cases hx : x + t < x
        · have hx' : 2 * x + (2 * t + 1) < 2 * x := by omega
          exact watch_double t r _ _ (by simp [watchStep, hl, hl', hx, hx']) (by simp [watchStep, hl, hl', hx, hx']) (by simp [watchStep, hl, hl', hx, hx'])
        · have hx' : ¬ 2 * x + (2 * t + 1) < 2 * x := by omega
          exact watch_double t r _ _ (by simp [watchStep, hl, hl', hx, hx']) (by simp [watchStep, hl, hl', hx, hx']) (by simp [watchStep, hl, hl', hx, hx'])
      · have hl' : ¬ 2 * x < 2 * low := by omega
        by_cases hx : low + t < x
        · have hx' : 2 * low + (2 * t + 1) < 2 * x := by omega
          exact watch_double t r _ _ (by simp [watchStep, hl, hl', hx, hx']) (by simp [watchStep, hl, hl', hx, hx']) (by simp [watchStep, hl, hl', hx, hx'])
        · have hx' : ¬ 2 * low + (2 * t + 1) < 2 * x := by omega
          exact watch_double t r _ _ (by simp [watchStep, hl, hl', hx, hx']) (by simp [watchStep, hl, hl', hx, hx']) (by simp [watchStep, hl, hl', hx, hx'])
    | some hi =>
      simp only [Option.map_some]
      by_cases hl : x < hi - t
      · have hl' : 2 * x < 2 * hi - (2 * t + 1) := by omega
        exact watch_double t r _ _ (by simp [watchStep, hl, hl']) (by simp [watchStep, hl, hl']) (by simp [watchStep, hl, hl'])
      · have hl' : ¬ 2 * x < 2 * hi - (2 * t + 1) := by omega
        by_cases hx : hi < x
        · have hx' : 2 * hi < 2 * x := by omega
          exact watch_double t r _ _ (by simp [watchStep, hl, hl', hx, hx']) (by simp [watchStep, hl, hl', hx, hx']) (by simp [watchStep, hl, hl', hx, hx', List.map_dropLast])
        · have hx' : ¬ 2 * hi < 2 * x := by omega
          exact watch_double t r _ _ (by simp [watchStep, hl, hl', hx, hx']) (by simp [watchStep, hl, hl', hx, hx']) (by simp [watchStep, hl, hl', hx, hx'])
/-- climbs of a total gain left of the fee: how many they are -/
theorem many_ge {t : Int} (ht : 0 ≤ t) {ns : List Int} {rows : List (Int × Int)} (hs : (flat rows).Sublist ns) (hg : gain rows = G t (swL ns) + t * (rows.length : Int)) {q : Int} (hq : 0 ≤ q) :
    G t (swL ns) + t * (rows.length : Int) ≤ G q (swL ns) + q * (rows.length : Int) := by
  obtain ⟨d, d1, d2⟩ := dp_ge hs
  have h1 := dp_le hq (W := top ns) ns d1
  rw [(swings_spec ns).play q (top ns) hq (fun x h => top_le h)] at h1
  rw [Int.mul_comm q]; omega
theorem cnt_scale (t : Int) : ∀ xs : List Int, cnt (2 * t) (xs.map (2 * ·)) = cnt t xs ∧ cnt (2 * t + 1) (xs.map (2 * ·)) = cnt t xs
  | [] => ⟨rfl, rfl⟩
  | x :: r => by
    obtain ⟨h1, h2⟩ := cnt_scale t r
    rw [List.map_cons, cnt_cons, cnt_cons, cnt_cons, h1, h2]
    by_cases h : t < x
    · rw [if_pos h, if_pos (by omega), if_pos (by omega)]; exact ⟨rfl, rfl⟩
    · rw [if_neg h, if_neg (by omega), if_neg (by omega)]; exact ⟨rfl, rfl⟩
theorem watch_count {t : Int} (ht : 0 ≤ t) {ns : List Int} (hn : 1 ≤ ns.length) : ((watchL ns t).climbs.length : Int) = cnt t (swL ns) := by
  have hd : (watchL (ns.map (2 * ·)) (2 * t + 1)).climbs.length = (watchL ns t).climbs.length := by
    cases ns with
    | nil => rfl
    | cons h r => exact watch_double t (h :: r) _ _ rfl rfl rfl
  have ht2 : 0 ≤ 2 * t + 1 := by omega
  have h2 : swL (ns.map (2 * ·)) = (swL ns).map (2 * ·) := by
    have := swL_scale (k := 2) (s := 0) (by decide) ns
    have e : (fun x : Int => 2 * x + 0) = (2 * ·) := by funext x; omega
    rw [e] at this; exact this
  have Wt := wat_all ht2 (ns := ns.map (2 * ·)) (by simpa using hn) (W := top (ns.map (2 * ·)) + (2 * t + 1)) (fun x hx => by have := top_le hx; omega)
  have hg := Wt.up
  rw [(swings_spec _).play _ _ ht2 (fun x hx => by have := top_le hx; omega)] at hg
  have a1 := many_ge ht2 (wat_sub Wt) hg (q := 2 * t) (by omega)
  have a2 := many_ge ht2 (wat_sub Wt) hg (q := 2 * t + 1 + 1) (by omega)
  have c1 := G_cnt (2 * t) (swL (ns.map (2 * ·)))
  have c2 := G_cnt (2 * t + 1) (swL (ns.map (2 * ·)))
  have e := cnt_scale t (swL ns)
  rw [h2] at a1 a2 c1 c2
  rw [e.1] at c1
  rw [e.2] at c2
  rw [← hd]
  generalize (watchL (ns.map (2 * ·)) (2 * t + 1)).climbs.length = N at a1 a2
  have m1 : (2 * t + 1) * (N : Int) = 2 * t * (N : Int) + N := by rw [Int.add_mul]; omega
  have m2 : (2 * t + 1 + 1) * (N : Int) = 2 * t * (N : Int) + N + N := by rw [Int.add_mul, m1]; omega
  rw [m1] at a1 a2
  rw [m2] at a2
  omega
theorem sumW_gain (cs : List (Int × Int)) : sumW cs = gain cs := rfl
theorem watch_gain {t : Int} (ht : 0 ≤ t) {ns : List Int} (hn : 1 ≤ ns.length) : sumW (watchL ns t).climbs = G t (swL ns) + t * cnt t (swL ns) := by
  have Wt := wat_all ht hn (W := top ns + t) (fun x hx => by have := top_le hx; omega)
  have hg := Wt.up
  rw [(swings_spec _).play _ _ ht (fun x hx => by have := top_le hx; omega), watch_count ht hn] at hg
  exact hg
theorem asc_climbs {t : Int} (ht : 0 ≤ t) {ns : List Int} (hn : 1 ≤ ns.length) : sumW (watchL ns t).climbs = ascW ns t := by
  cases ns with
  | nil => simp at hn
  | cons h r =>
    unfold watchL ascW statesW
    rw [scanW_last]
    show sumW ((h :: r).foldl (watchStep t) ⟨h, none, [], []⟩).climbs = _
    rw [List.foldl_cons, watch_first h t ht]
    have T : Twin ⟨h, none, [], [0]⟩ ⟨false, h, h, 0⟩ := ⟨rfl, rfl, fun _ => rfl, fun h' e => nomatch e⟩
    exact (twin_run t r _ _ T).1.shown
/-- the ascent: all swings above the threshold -/
theorem filter_sum (q : Int) : ∀ xs : List Int, (xs.filter fun x => decide (q < x)).sum = G q xs + q * cnt q xs
  | [] => by simp [G_nil, cnt]
  | x :: r => by
    rw [G_cons, cnt_cons, List.filter_cons, Int.mul_add]
    have ih := filter_sum q r
    by_cases h : q < x
    · simp only [h, decide_true, if_true, List.sum_cons, ih]; omega
    · simp only [h, decide_false, if_false, Bool.false_eq_true, ih]; omega
theorem asc_swings {t : Int} (ht : 0 ≤ t) {ns : List Int} (hn : 1 ≤ ns.length) : ascW ns t = ((swL ns).filter fun x => decide (t < x)).sum := by
  rw [← asc_climbs ht hn, watch_gain ht hn, filter_sum]
end K

namespace K
/-- the climbs that the states tell -/
def climbsOf : List W4 → List (Int × Int)
  | [] => []
  | [s] => if s.c = true then [(s.lo, s.hi)] else []
  | s :: s' :: r => if s.c = true ∧ s'.c = false then (s.lo, s.hi) :: climbsOf (s' :: r) else climbsOf (s' :: r)
/-- the climbs that are over -/
def doneC (s : WL) : List (Int × Int) := match s.high with
  | none => s.climbs
  | some _ => s.climbs.dropLast
theorem climbsOf_scan (f : W4 → Int → W4) (w w' : W4) (r : List Int) : climbsOf (w :: scanW f w' r) = (if w.c = true ∧ w'.c = false then [(w.lo, w.hi)] else []) ++ climbsOf (scanW f w' r) := by
  cases r <;> (simp only [scanW, climbsOf]; split <;> simp)
theorem climbs_run (t : Int) : ∀ (r : List Int) (s : WL) (w : W4), Twin s w → (r.foldl (watchStep t) s).climbs = doneC s ++ climbsOf (scanW (fun s x => stepW s x t) w r)
  | [], s, w, T => by
    obtain ⟨low, high, cs, sh⟩ := s
    obtain ⟨wc, wlo, whi, wct⟩ := w
    obtain ⟨a1, a2, a3, a4⟩ := T
    simp only at a1 a2 a3 a4
    cases high with
    | none => simp only [Option.isSome_none] at a2; subst a2; simp [scanW, climbsOf, doneC]
    | some h =>
      simp only [Option.isSome_some] at a2; subst a2
      obtain ⟨b1, cs', b2, b3⟩ := a4 h rfl
      subst b1 b2
      simp [scanW, climbsOf, doneC]
  | x :: r, s, w, T => by
    have ih := climbs_run t r _ _ (T.step t x).1
    rw [List.foldl_cons, ih]
    show _ = doneC s ++ climbsOf (w :: scanW (fun s x => stepW s x t) (stepW w x t) r)
    rw [climbsOf_scan, ← List.append_assoc]
    congr 1
    obtain ⟨low, high, cs, sh⟩ := s
    obtain ⟨wc, wlo, whi, wct⟩ := w
    obtain ⟨a1, a2, a3, a4⟩ := T
    simp only at a1 a2 a3 a4
    subst a1
    cases high with
    | none =>
      simp only [Option.isSome_none] at a2; subst a2
      by_cases hh : (if x < low then x else low) + t < x
      · simp [watchStep, stepW, hh, doneC]
      · simp [watchStep, stepW, hh, doneC]
    | some h =>
      simp only [Option.isSome_some] at a2; subst a2
      obtain ⟨b1, cs', b2, b3⟩ := a4 h rfl
      subst b1 b2
      by_cases h1 : x < whi - t
      · simp [watchStep, stepW, h1, doneC]
      · by_cases h2 : whi < x
        · simp [watchStep, stepW, h1, h2, doneC]
        · simp [watchStep, stepW, h1, h2, doneC]
theorem climbs_states {ns : List Int} {t : Int} (ht : 0 ≤ t) : climbsOf (statesW ns t) = (watchL ns t).climbs := by
  cases ns with
  | nil => rfl
  | cons h r =>
    unfold watchL statesW
    show _ = ((h :: r).foldl (watchStep t) ⟨h, none, [], []⟩).climbs
    rw [List.foldl_cons, watch_first h t ht]
    have T : Twin ⟨h, none, [], [0]⟩ ⟨false, h, h, 0⟩ := ⟨rfl, rfl, fun _ => rfl, fun h' e => nomatch e⟩
    rw [climbs_run t r _ _ T]
    rfl
end K

namespace K
open DL (srt srt_perm srt_sorted srt_of sorted_unique)
/-! ### upside down -/
def neg (ns : List Int) : List Int := ns.map fun x => 0 - x
theorem neg_neg (ns : List Int) : neg (neg ns) = ns := by
  unfold neg; rw [List.map_map]
  conv => rhs; rw [← List.map_id ns]
  congr 1; funext x; simp
theorem up_neg {q : Int} (hq : 0 ≤ q) : ∀ (w : Int) (ns : List Int), upW q (q - w) (neg ns) = upW q w ns - (runW q w ns - w) ∧ runW q (q - w) (neg ns) = q - runW q w ns
  | w, [] => by simp [upW, runW, neg]
  | w, x :: r => by
    obtain ⟨h1, h2⟩ := up_neg hq (stp q w x) r
    have e : stp q (q - w) (0 - x) = q - stp q w x := by unfold stp; omega
    unfold neg at h1 h2 ⊢
    simp only [List.map_cons, upW, runW]
    rw [e, h1, h2]
    refine ⟨?_, rfl⟩
    generalize upW q (stp q w x) r = A
    generalize runW q (stp q w x) r = B
    unfold up1 stp; omega
theorem run_le {q m : Int} (hq : 0 ≤ q) : ∀ {ns : List Int} {w : Int}, w ≤ m → (∀ x ∈ ns, x ≤ m) → runW q w ns ≤ m
  | [], w, h, _ => h
  | x :: r, w, h, hx => by
    have := hx x (by simp)
    exact run_le hq (w := stp q w x) (by unfold stp; omega) (fun y hy => hx y (by simp [hy]))
theorem run_ge {q m : Int} (hq : 0 ≤ q) : ∀ {ns : List Int} {w : Int}, m ≤ w → (∀ x ∈ ns, m ≤ x) → m ≤ runW q w ns
  | [], w, h, _ => h
  | x :: r, w, h, hx => by
    have := hx x (by simp)
    exact run_ge hq (w := stp q w x) (by unfold stp; omega) (fun y hy => hx y (by simp [hy]))
theorem run_geq {q m : Int} (hq : 0 ≤ q) : ∀ {ns : List Int} {w : Int}, m + q ≤ w → (∀ x ∈ ns, m ≤ x) → m + q ≤ runW q w ns
  | [], w, h, _ => h
  | x :: r, w, h, hx => by
    have := hx x (by simp)
    exact run_geq hq (w := stp q w x) (by unfold stp; omega) (fun y hy => hx y (by simp [hy]))
theorem play_any {q W W' : Int} (hq : 0 ≤ q) {ns : List Int} (h : ∀ x ∈ ns, x ≤ W) (h' : ∀ x ∈ ns, x ≤ W') : upW q W ns = upW q W' ns := by
  rw [(swings_spec ns).play q W hq h, (swings_spec ns).play q W' hq h']
/-- equal play, equal swings -/
theorem swL_G {ns ms : List Int} (h : ∀ q, 0 ≤ q → G q (swL ns) = G q (swL ms)) : swL ns = swL ms :=
  desc_unique (swings_perm (swings_spec ns).pos (swings_spec ms).pos h) (swings_spec ns).sorted (swings_spec ms).sorted
theorem swL_dsc {ns xs : List Int} (hp : ∀ x ∈ xs, 0 < x) (h : ∀ q, 0 ≤ q → G q (swL ns) = G q xs) : (srt xs).reverse = swL ns :=
  desc_unique ((List.reverse_perm _).trans ((srt_perm xs).trans (swings_perm hp (swings_spec ns).pos fun q hq => (h q hq).symm))) (List.pairwise_reverse.mpr (srt_sorted _)) (swings_spec ns).sorted
/-- from a lowest to a highest place -/
theorem G_rise {q lo hi : Int} (hq : 0 ≤ q) {ns : List Int} (h : ∀ x ∈ ns, lo ≤ x ∧ x ≤ hi) (hl : lo ≤ hi) :
    G q (swL (lo :: (ns ++ [hi]))) = max 0 (hi - lo - q) + G q (swL (neg (lo :: (ns ++ [hi])))) := by
  have hb : ∀ x ∈ lo :: (ns ++ [hi]), lo ≤ x ∧ x ≤ hi := fun x hx => by
    simp only [List.mem_cons, List.mem_append, List.not_mem_nil, or_false] at hx
    rcases hx with rfl | hx | rfl
    · omega
    · exact h x hx
    · omega
  have hn : ∀ x ∈ neg (lo :: (ns ++ [hi])), -hi ≤ x ∧ x ≤ -lo := fun x hx => by
    obtain ⟨y, hy, rfl⟩ := List.mem_map.mp hx
    have := hb y hy; omega
  by_cases hc : hi - lo < q
  · rw [← (swings_spec _).play q hi hq (fun x hx => (hb x hx).2), ← (swings_spec (neg _)).play q (-lo) hq (fun x hx => (hn x hx).2)]
    rw [up_flat hq (fun x hx => by have := hb x hx; omega), up_flat hq (fun x hx => by have := hn x hx; omega)]
    omega
  · rw [← (swings_spec _).play q hi hq (fun x hx => (hb x hx).2), ← (swings_spec (neg _)).play q (-lo) hq (fun x hx => (hn x hx).2)]
    have e1 := (up_neg hq (lo + q) (lo :: (ns ++ [hi]))).1
    have e2 : q - (lo + q) = -lo := by omega
    rw [e2] at e1
    rw [e1]
    have s1 : stp q (lo + q) lo = lo + q := by unfold stp; omega
    have s2 : stp q hi lo = lo + q := by unfold stp; omega
    have u1 : up1 (lo + q) lo = 0 := by unfold up1; omega
    have u2 : up1 hi lo = 0 := by unfold up1; omega
    simp only [upW, runW]
    rw [s1, s2, u1, u2]
    have hr : runW q (lo + q) (ns ++ [hi]) = hi := by
      rw [runW_app]
      have := run_le hq (show lo + q ≤ hi by omega) (ns := ns) (fun x hx => (h x hx).2)
      simp only [runW]
      unfold stp; omega
    rw [hr]; omega
theorem swL_rise {lo hi : Int} {ns : List Int} (h : ∀ x ∈ ns, lo ≤ x ∧ x ≤ hi) (hl : lo ≤ hi) :
    (srt ((if lo < hi then [hi - lo] else []) ++ swL (neg (lo :: (ns ++ [hi]))))).reverse = swL (lo :: (ns ++ [hi])) := by
  refine swL_dsc (fun x hx => ?_) fun q hq => ?_
  · rcases List.mem_append.mp hx with hx | hx
    · split at hx
      · simp only [List.mem_singleton] at hx; omega
      · simp at hx
    · exact (swings_spec _).pos x hx
  · rw [G_rise hq h hl, G_app]
    split
    · rw [G_one]
    · rw [G_nil]; omega
theorem neg_app (a b : List Int) : neg (a ++ b) = neg a ++ neg b := List.map_append
theorem neg_cons (x : Int) (b : List Int) : neg (x :: b) = (0 - x) :: neg b := rfl
theorem neg_bd {lo hi : Int} {ns : List Int} (h : ∀ x ∈ ns, lo ≤ x ∧ x ≤ hi) : ∀ x ∈ neg ns, 0 - hi ≤ x ∧ x ≤ 0 - lo := fun x hx => by
  obtain ⟨y, hy, rfl⟩ := List.mem_map.mp hx
  have := h y hy; omega
theorem swL_fall {lo hi : Int} {ns : List Int} (h : ∀ x ∈ ns, lo ≤ x ∧ x ≤ hi) (hl : lo ≤ hi) :
    (srt ((if lo < hi then [hi - lo] else []) ++ swL (hi :: (ns ++ [lo])))).reverse = swL (neg (hi :: (ns ++ [lo]))) := by
  have e := swL_rise (lo := 0 - hi) (hi := 0 - lo) (neg_bd h) (by omega)
  have e1 : (0 - hi) :: (neg ns ++ [0 - lo]) = neg (hi :: (ns ++ [lo])) := by rw [neg_cons, neg_app]; rfl
  rw [e1, neg_neg] at e
  rw [← e]
  have e2 : 0 - lo - (0 - hi) = hi - lo := by omega
  by_cases hc : lo < hi
  · rw [if_pos hc, if_pos (by omega), e2]
  · rw [if_neg hc, if_neg (by omega)]
/-! ### ends that add nothing -/
theorem G_lowend {q lo : Int} (hq : 0 ≤ q) {ns : List Int} (h : ∀ x ∈ ns, lo ≤ x) : G q (swL (ns ++ [lo])) = G q (swL ns) := by
  have hW : ∀ x ∈ ns ++ [lo], x ≤ max lo (top ns) := fun x hx => by
    rcases List.mem_append.mp hx with hx | hx
    · have := top_le hx; omega
    · simp only [List.mem_singleton] at hx; omega
  rw [← (swings_spec _).play q _ hq hW, ← (swings_spec ns).play q _ hq (fun x hx => hW x (by simp [hx])), upW_app]
  have := run_ge hq (m := lo) (w := max lo (top ns)) (by omega) h
  simp only [upW]
  unfold up1; omega
theorem swL_lowend {lo : Int} {ns : List Int} (h : ∀ x ∈ ns, lo ≤ x) : swL (ns ++ [lo]) = swL ns := swL_G fun q hq => G_lowend hq h
theorem G_highstart {q hi : Int} (hq : 0 ≤ q) {ns : List Int} (h : ∀ x ∈ ns, x ≤ hi) : G q (swL (hi :: ns)) = G q (swL ns) := by
  rw [← (swings_spec (hi :: ns)).play q hi hq (fun x hx => by rcases List.mem_cons.mp hx with rfl | hx; omega; exact h x hx)]
  have s : stp q hi hi = hi := by unfold stp; omega
  have u : up1 hi hi = 0 := by unfold up1; omega
  simp only [upW]
  rw [s, u, (swings_spec ns).play q hi hq h]; omega
theorem swL_highstart {hi : Int} {ns : List Int} (h : ∀ x ∈ ns, x ≤ hi) : swL (hi :: ns) = swL ns := swL_G fun q hq => G_highstart hq h
/-! ### parted at a highest or lowest place -/
theorem G_part {q m : Int} (hq : 0 ≤ q) {A B : List Int} (h : (∀ x ∈ A ++ m :: B, x ≤ m) ∨ (∀ x ∈ A ++ m :: B, m ≤ x)) : G q (swL (A ++ m :: B)) = G q (swL (A ++ [m])) + G q (swL (m :: B)) := by
  rcases h with h | h
  · have hA : ∀ x ∈ A, x ≤ m := fun x hx => h x (by simp [hx])
    have hB : ∀ x ∈ B, x ≤ m := fun x hx => h x (by simp [hx])
    rw [← (swings_spec _).play q m hq h, ← (swings_spec (A ++ [m])).play q m hq (fun x hx => h x (by simp at hx ⊢; rcases hx with hx | hx <;> simp [hx])), ← (swings_spec (m :: B)).play q m hq (fun x hx => h x (by simp at hx ⊢; rcases hx with hx | hx <;> simp [hx]))]
    rw [upW_app, upW_app]
    have hr := run_le hq (Int.le_refl m) hA
    generalize runW q m A = w at hr
    simp only [upW]
    have s1 : stp q w m = m := by unfold stp; omega
    have s2 : stp q m m = m := by unfold stp; omega
    have u : up1 m m = 0 := by unfold up1; omega
    rw [s1, s2, u]; omega
  · have hA : ∀ x ∈ A, m ≤ x := fun x hx => h x (by simp [hx])
    have tp : ∀ x ∈ A ++ m :: B, x ≤ max (top (A ++ m :: B)) (m + q) := fun x hx => by have := top_le hx; omega
    generalize hWe : max (top (A ++ m :: B)) (m + q) = W at tp
    have hW2 : m + q ≤ W := by omega
    rw [← (swings_spec _).play q W hq tp, ← (swings_spec (A ++ [m])).play q W hq (fun x hx => tp x (by simp at hx ⊢; rcases hx with hx | hx <;> simp [hx])), ← (swings_spec (m :: B)).play q W hq (fun x hx => tp x (by simp at hx ⊢; rcases hx with hx | hx <;> simp [hx]))]
    rw [upW_app, upW_app]
    have hr := run_geq hq hW2 hA
    generalize runW q W A = w at hr
    simp only [upW]
    have s1 : stp q w m = m + q := by unfold stp; omega
    have s2 : stp q W m = m + q := by unfold stp; omega
    have u : up1 W m = 0 := by unfold up1; omega
    have u2 : up1 w m = 0 := by unfold up1; omega
    rw [s1, s2, u, u2]; omega
/-! ### all rises -/
def rises : List Int → Int
  | x :: y :: r => max 0 (y - x) + rises (y :: r)
  | _ => 0
theorem up0_rises : ∀ (x : Int) (r : List Int), upW 0 x r = rises (x :: r)
  | x, [] => rfl
  | x, y :: r => by
    have s : stp 0 x y = y := by unfold stp; omega
    simp only [upW, rises]
    rw [s, up0_rises y r]; rfl
theorem sum_rises (ns : List Int) : (swL ns).sum = rises ns := by
  rw [← G_pos0 (swings_spec ns).pos, ← (swings_spec ns).play 0 (top ns) (Int.le_refl 0) (fun x hx => top_le hx)]
  cases ns with
  | nil => rfl
  | cons x r =>
    have hx : x ≤ top (x :: r) := top_le (by simp)
    have s : stp 0 (top (x :: r)) x = x := by unfold stp; omega
    have u : up1 (top (x :: r)) x = 0 := by unfold up1; omega
    simp only [upW]
    rw [s, u, up0_rises]; omega
theorem rises_neg : ∀ (x : Int) (r : List Int), rises (x :: r) - rises (neg (x :: r)) = (x :: r).getLast (by simp) - x
  | x, [] => by simp [rises, neg]
  | x, y :: r => by
    have ih := rises_neg y r
    simp only [rises, neg_cons] at ih ⊢
    rw [List.getLast_cons (by simp)]
    omega
theorem sum_neg {ns : List Int} (h : ns ≠ []) : (swL ns).sum - (swL (neg ns)).sum = ns.getLast h - ns.head h := by
  cases ns with
  | nil => exact absurd rfl h
  | cons x r => rw [sum_rises, sum_rises]; exact rises_neg x r
theorem rises_app : ∀ (A B : List Int) (x y : Int), rises (A ++ x :: y :: B) = rises (A ++ [x]) + max 0 (y - x) + rises (y :: B)
  | [], B, x, y => by simp [rises]
  | [a], B, x, y => by simp only [List.cons_append, List.nil_append, rises]; omega
  | a :: b :: A, B, x, y => by
    have ih := rises_app (b :: A) B x y
    simp only [List.cons_append, rises] at ih ⊢
    rw [ih]; omega
/-! ### backwards -/
theorem flat_rev : ∀ rows : List (Int × Int), (neg (flat rows)).reverse = flat (rows.reverse.map fun p => (0 - p.2, 0 - p.1))
  | [] => rfl
  | (a, b) :: r => by
    have ih := flat_rev r
    simp only [flat, neg_cons, List.reverse_cons, List.map_append, List.map_cons, List.map_nil, flat_app]
    rw [ih]; simp
theorem gain_rev (rows : List (Int × Int)) : gain (rows.reverse.map fun p => (0 - p.2, 0 - p.1)) = gain rows := by
  induction rows with
  | nil => rfl
  | cons p r ih =>
    rw [List.reverse_cons, List.map_append, gain_app, ih, gain_cons]
    simp only [List.map_cons, List.map_nil, gain_cons]
    have : gain [] = 0 := rfl
    rw [this]; omega
theorem best_rev (ns : List Int) (c : Nat) : best c ns ≤ best c (neg ns).reverse := by
  have := best_tr (ns := ns) (ms := (neg ns).reverse) (k := 0) (Int.le_refl 0) (fun rows hr => ⟨rows.reverse.map fun p => (0 - p.2, 0 - p.1), by simp, ?_, by rw [gain_rev]; omega⟩) c
  · omega
  · rw [← flat_rev]
    exact List.reverse_sublist.mpr (hr.map _)
theorem neg_reverse (ns : List Int) : neg ns.reverse = (neg ns).reverse := List.map_reverse
theorem swL_rev (ns : List Int) : swL (neg ns).reverse = swL ns := by
  refine swL_best fun c => ?_
  have h1 := best_rev ns c
  have h2 := best_rev (neg ns).reverse c
  rw [neg_reverse, neg_neg, List.reverse_reverse] at h2
  omega
end K

namespace K
open DL (srt srt_perm srt_sorted srt_of sorted_unique)
/-! ### a track with given swings -/
def twP (i : Nat) : List Int → List (Int × Int)
  | [] => []
  | s :: r => (0 - (i : Int), s - (i : Int)) :: twP (i + 1) r
theorem twP_len : ∀ (i : Nat) (S : List Int), (twP i S).length = S.length
  | _, [] => rfl
  | i, s :: r => by simp [twP, twP_len (i + 1) r]
theorem twP_app : ∀ (i : Nat) (A : List Int) (s : Int), twP i (A ++ [s]) = twP i A ++ [(0 - ((i + A.length : Nat) : Int), s - ((i + A.length : Nat) : Int))]
  | i, [], s => rfl
  | i, a :: A, s => by
    have e : i + 1 + A.length = i + (A.length + 1) := by omega
    simp only [List.cons_append, twP, List.length_cons]; rw [twP_app (i + 1) A s, e]
theorem tw_up {q W : Int} (hq : 0 ≤ q) : ∀ (S : List Int) (i : Nat), (∀ x ∈ S, 0 < x) → (∀ p ∈ twP i S, p.2 ≤ W) → upW q W (flat (twP i S)) = G q S
  | [], _, _, _ => rfl
  | [s], i, hp, hW => by
    have h1 := hp s (by simp)
    have h2 := hW (0 - (i : Int), s - (i : Int)) (by simp [twP])
    simp only [twP, flat]
    rw [cut_last hq (by omega) h2, G_one]; omega
  | s :: s' :: r, i, hp, hW => by
    have h1 := hp s (by simp)
    have h2 := hW (0 - (i : Int), s - (i : Int)) (by simp [twP])
    have ih := tw_up hq (s' :: r) (i + 1) (fun x hx => hp x (by simp [hx])) (fun p hp' => hW p (by simp only [twP, List.mem_cons] at hp' ⊢; exact .inr hp'))
    simp only [twP, flat] at ih ⊢
    rw [cut_down hq (by omega) (by omega) h2, ih, G_cons q s]; omega
theorem twP_bd : ∀ (S : List Int) (i : Nat) (b : Int), (∀ x ∈ S, 0 ≤ x ∧ x ≤ b) → ∀ x ∈ flat (twP i S), -((i + S.length : Nat) : Int) ≤ x ∧ x ≤ b
  | [], _, _, _, x, hx => by simp [twP, flat] at hx
  | s :: r, i, b, h, x, hx => by
    have h1 := h s (by simp)
    simp only [twP, flat, List.mem_cons] at hx
    rw [List.length_cons]
    rcases hx with rfl | rfl | hx
    · omega
    · omega
    · have := twP_bd r (i + 1) b (fun y hy => h y (by simp [hy])) x hx
      omega
theorem swL_tw {S : List Int} (hp : ∀ x ∈ S, 0 < x) (hs : S.Pairwise (· ≥ ·)) : swL (flat (twP 0 S)) = S := by
  refine desc_unique (swings_perm (swings_spec _).pos hp fun q hq => ?_) (swings_spec _).sorted hs
  rw [← (swings_spec _).play q (top (flat (twP 0 S))) hq (fun x hx => top_le hx)]
  exact tw_up hq S 0 hp (fun p hp' => top_le (flat_mem hp').2)
/-! ### each height twice -/
def dbl : List Int → List Int
  | [] => []
  | x :: r => x :: x :: dbl r
theorem up_dbl {q : Int} (hq : 0 ≤ q) : ∀ (w : Int) (ns : List Int), upW q w (dbl ns) = upW q w ns
  | w, [] => rfl
  | w, x :: r => by
    have e1 : stp q (stp q w x) x = stp q w x := by unfold stp; omega
    have e2 : up1 (stp q w x) x = 0 := by unfold up1 stp; omega
    simp only [dbl, upW]
    rw [e1, e2, up_dbl hq _ r]; omega
theorem swL_dbl (ns : List Int) : swL (dbl ns) = swL ns := swL_play fun q W hq _ _ => up_dbl hq W ns
theorem best_dbl (c : Nat) (ns : List Int) : best c (dbl ns) = best c ns := by unfold best; rw [swL_dbl]
theorem dbl_app : ∀ a b : List Int, dbl (a ++ b) = dbl a ++ dbl b
  | [], b => rfl
  | x :: a, b => by simp only [List.cons_append, dbl]; rw [dbl_app a b]
theorem sub_dbl : ∀ ns : List Int, ns.Sublist (dbl ns)
  | [] => .refl _
  | x :: r => ((sub_dbl r).cons x).cons_cons x
/-! ### two tracks, one behind the other -/
theorem flat_split : ∀ {rows : List (Int × Int)} {A B : List Int}, (flat rows).Sublist (A ++ B) →
    (∃ r1 r2, rows = r1 ++ r2 ∧ (flat r1).Sublist A ∧ (flat r2).Sublist B) ∨
    (∃ r1 a b r2 A1 A2 B1 B2, rows = r1 ++ (a, b) :: r2 ∧ A = A1 ++ a :: A2 ∧ B = B1 ++ b :: B2 ∧ (flat r1).Sublist A1 ∧ (flat r2).Sublist B2)
  | [], A, B, h => .inl ⟨[], [], rfl, List.nil_sublist _, List.nil_sublist _⟩
  | (l, h) :: r, A, B, hs => by
    obtain ⟨l1, l2, e, h1, h2⟩ := List.sublist_append_iff.mp hs
    simp only [flat] at e
    cases l1 with
    | nil =>
      simp only [List.nil_append] at e
      exact .inl ⟨[], (l, h) :: r, rfl, List.nil_sublist _, by rw [← e] at h2; exact h2⟩
    | cons x l1 =>
      simp only [List.cons_append, List.cons.injEq] at e
      obtain ⟨rfl, e⟩ := e
      cases l1 with
      | nil =>
        simp only [List.nil_append] at e
        rw [← e] at h2
        obtain ⟨B1, B2, eB, hb⟩ := cons_split h2
        obtain ⟨A1, A2, eA, ha⟩ := cons_split h1
        exact .inr ⟨[], l, h, r, A1, A2, B1, B2, rfl, eA, eB, List.nil_sublist _, hb⟩
      | cons y l1 =>
        simp only [List.cons_append, List.cons.injEq] at e
        obtain ⟨rfl, e⟩ := e
        obtain ⟨A1, A2, eA, ha⟩ := cons_split h1
        obtain ⟨A3, A4, eA2, ha2⟩ := cons_split ha
        have hs2 : (flat r).Sublist (A4 ++ B) := by rw [e]; exact ha2.append h2
        have low : ∀ {t : List Int}, t.Sublist A4 → (l :: h :: t).Sublist A := fun {t} ht => by
          rw [eA, eA2]
          exact ((ht.cons_cons h).trans (List.sublist_append_right _ _)).cons_cons l |>.trans (List.sublist_append_right _ _)
        rcases flat_split hs2 with ⟨r1, r2, e3, q1, q2⟩ | ⟨r1, a, b, r2, C1, C2, B1, B2, e3, q1, q2, q3, q4⟩
        · exact .inl ⟨(l, h) :: r1, r2, by rw [e3]; rfl, low q1, q2⟩
        · refine .inr ⟨(l, h) :: r1, a, b, r2, A1 ++ l :: A3 ++ h :: C1, C2, B1, B2, by rw [e3]; rfl, by rw [eA, eA2, q1]; simp, q2, ?_, q4⟩
          have : (l :: h :: flat r1).Sublist (l :: A3 ++ h :: C1) := by
            rw [List.cons_append]
            exact ((q3.cons_cons h).trans (List.sublist_append_right _ _)).cons_cons l
          have e4 : A1 ++ l :: A3 ++ h :: C1 = A1 ++ (l :: A3 ++ h :: C1) := by simp
          rw [e4]
          exact this.trans (List.sublist_append_right _ _)
where
  cons_split : ∀ {x : Int} {t A : List Int}, (x :: t).Sublist A → ∃ A1 A2, A = A1 ++ x :: A2 ∧ t.Sublist A2
    | x, t, [], h => by cases h
    | x, t, a :: A, h => by
      cases h with
      | cons _ h =>
        obtain ⟨A1, A2, e, q⟩ := cons_split h
        exact ⟨a :: A1, A2, by rw [e]; rfl, q⟩
      | cons_cons _ h => exact ⟨[], A, rfl, h⟩
theorem best_both (c1 c2 : Nat) (A B : List Int) : best c1 A + best c2 B ≤ best (c1 + c2) (A ++ B) := by
  obtain ⟨r1, a1, a2, a3⟩ := best_at A c1
  obtain ⟨r2, b1, b2, b3⟩ := best_at B c2
  have h : (flat (r1 ++ r2)).Sublist (A ++ B) := by rw [flat_app]; exact a2.append b2
  have := best_ge h
  rw [gain_app, List.length_append] at this
  have := best_mono (A ++ B) (show r1.length + r2.length ≤ c1 + c2 by omega)
  omega
/-- a climb that crosses -/
theorem best_cross (c1 c2 : Nat) (A B A' B' : List Int) (a b : Int) : best c1 (A ++ [a]) - a + (best c2 (b :: B) + b) ≤ best (c1 + c2 + 1) ((A ++ a :: A') ++ (B' ++ b :: B)) := by
  obtain ⟨r1, a1, a2, a3⟩ := best_at (A ++ [a]) c1
  obtain ⟨r2, b1, b2, b3⟩ := best_at (b :: B) c2
  have h : (flat (r1 ++ (a, b) :: r2)).Sublist (dbl ((A ++ a :: A') ++ (B' ++ b :: B))) := by
    rw [flat_app]
    simp only [flat]
    have e : (A ++ a :: A') ++ (B' ++ b :: B) = (A ++ [a]) ++ (A' ++ B' ++ b :: B) := by simp
    rw [e, dbl_app, dbl_app, dbl_app]
    simp only [dbl]
    have s1 : (flat r1 ++ [a]).Sublist (dbl A ++ [a, a]) := by
      obtain ⟨t1, t2, e2, q1, q2⟩ := List.sublist_append_iff.mp a2
      rw [e2, List.append_assoc]
      exact (q1.trans (sub_dbl A)).append (q2.append (.refl [a]))
    have s2 : (b :: flat r2).Sublist (dbl (A' ++ B') ++ b :: b :: dbl B) := by
      refine List.Sublist.trans ?_ (List.sublist_append_right _ _)
      refine List.Sublist.cons_cons b ?_
      have : (b :: B).Sublist (b :: dbl B) := (sub_dbl B).cons_cons b
      exact b2.trans this
    have := s1.append s2
    simpa using this
  have := best_ge h
  rw [gain_app, gain_cons, List.length_append, List.length_cons, best_dbl] at this
  have := best_mono ((A ++ a :: A') ++ (B' ++ b :: B)) (show r1.length + (r2.length + 1) ≤ c1 + c2 + 1 by omega)
  simp only at *; omega
/-- .. and no more than this -/
theorem best_split (c : Nat) (A B : List Int) : (∃ c1 c2, c1 + c2 = c ∧ best c (A ++ B) = best c1 A + best c2 B) ∨
    (∃ c1 c2 A1 a A2 B1 b B2, c1 + c2 + 1 = c ∧ A = A1 ++ a :: A2 ∧ B = B1 ++ b :: B2 ∧ best c (A ++ B) = best c1 (A1 ++ [a]) - a + (best c2 (b :: B2) + b)) := by
  obtain ⟨rows, r1, r2, r3⟩ := best_at (A ++ B) c
  rcases flat_split r2 with ⟨p1, p2, e, q1, q2⟩ | ⟨p1, a, b, p2, A1, A2, B1, B2, e, eA, eB, q1, q2⟩
  · left
    rw [e, List.length_append] at r1
    refine ⟨p1.length, c - p1.length, by omega, ?_⟩
    have h1 := best_ge q1
    have h2 := best_ge q2
    have h3 := best_mono B (show p2.length ≤ c - p1.length by omega)
    have h4 := best_both p1.length (c - p1.length) A B
    rw [show p1.length + (c - p1.length) = c by omega] at h4
    rw [e, gain_app] at r3
    omega
  · right
    rw [e, List.length_append, List.length_cons] at r1
    refine ⟨p1.length, c - p1.length - 1, A1, a, A2, B1, b, B2, by omega, eA, eB, ?_⟩
    have h1 := best_ge (q1.trans (List.sublist_append_left A1 [a]))
    have h2 := best_ge (q2.trans (List.sublist_cons_self b B2))
    have h3 := best_mono (b :: B2) (show p2.length ≤ c - p1.length - 1 by omega)
    have h4 := best_cross p1.length (c - p1.length - 1) A1 B2 A2 B1 a b
    rw [← eA, ← eB, show p1.length + (c - p1.length - 1) + 1 = c by omega] at h4
    rw [e, gain_app, gain_cons] at r3
    simp only at r3; omega
/-! ### runs of both -/
theorem rcnt_cons (p : Int) (b : Bool) (x : Int) (r : List Int) : rcnt p b (x :: r) = if p < x then (if b = true then rcnt x true r else rcnt x true r + 1) else if x < p then rcnt x false r else rcnt x b r := rfl
theorem rcnt_true : ∀ (r : List Int) (y : Int), rcnt y true r ≤ rcnt y false r ∧ rcnt y false r ≤ rcnt y true r + 1
  | [], y => by simp [rcnt]
  | x :: r, y => by
    have := rcnt_true r x
    rw [rcnt_cons, rcnt_cons]
    by_cases h : y < x
    · simp [h]
    · by_cases h2 : x < y
      · simp [h, h2]
      · simp only [h, h2, if_false]; exact this
theorem rcnt_app : ∀ (r : List Int) (p : Int) (b : Bool) (t : List Int) (y : Int), rcnt p b (r ++ y :: t) ≤ rcnt p b r + rcnt y false t + 1 ∧ rcnt p b r + rcnt y false t ≤ rcnt p b (r ++ y :: t) + 1
  | [], p, b, t, y => by
    have := rcnt_true t y
    simp only [List.nil_append]
    have e : rcnt p b [] = 0 := rfl
    rw [e, rcnt_cons]
    by_cases h : p < y
    · cases b <;> simp only [h, if_true, if_false, Bool.false_eq_true] <;> omega
    · by_cases h2 : y < p
      · simp only [h, h2, if_true, if_false]; omega
      · cases b <;> simp only [h, h2, if_false] <;> omega
  | x :: r, p, b, t, y => by
    simp only [List.cons_append]
    rw [rcnt_cons, rcnt_cons]
    by_cases h : p < x
    · have := rcnt_app r x true t y
      cases b <;> simp only [h, if_true, if_false, Bool.false_eq_true] <;> omega
    · by_cases h2 : x < p
      · simp only [h, h2, if_true, if_false]; exact rcnt_app r x false t y
      · simp only [h, h2, if_false]; exact rcnt_app r x b t y
theorem runs_join {A B : List Int} (hA : A ≠ []) (hB : B ≠ []) : (swL (A ++ B)).length ≤ (swL A).length + (swL B).length + 1 ∧ (swL A).length + (swL B).length ≤ (swL (A ++ B)).length + 1 := by
  cases A with
  | nil => exact absurd rfl hA
  | cons x r =>
    cases B with
    | nil => exact absurd rfl hB
    | cons y t =>
      rw [List.cons_append, ← rcnt_swings, ← rcnt_swings, ← rcnt_swings]
      exact rcnt_app r x false t y
theorem rises_join {A B : List Int} (hA : A ≠ []) (hB : B ≠ []) : rises (A ++ B) = rises A + rises B + max 0 (B.head hB - A.getLast hA) := by
  obtain ⟨A', a, rfl⟩ : ∃ A' a, A = A' ++ [a] := ⟨A.dropLast, A.getLast hA, (List.dropLast_concat_getLast hA).symm⟩
  cases B with
  | nil => exact absurd rfl hB
  | cons y t =>
    have := rises_app A' t a y
    simp only [List.append_assoc, List.singleton_append, List.head_cons, List.getLast_append, List.getLast_singleton]
    rw [this]
    simp
    omega
theorem asc_rises {ns : List Int} (hn : 1 ≤ ns.length) : ascW ns 0 = rises ns := by
  rw [asc_swings (Int.le_refl 0) hn, ← sum_rises]
  congr 1
  exact List.filter_eq_self.mpr fun x hx => by simpa using (swings_spec ns).pos x hx
end K

namespace K
open DL (srt srt_perm srt_sorted srt_of sorted_unique)
/-! ### what is above a threshold -/
def Fab (b : Int) (S : List Int) : Int := (S.filter fun x => decide (b < x)).sum
theorem F_cons (b x : Int) (r : List Int) : Fab b (x :: r) = (if b < x then x else 0) + Fab b r := by
  unfold Fab
  rw [List.filter_cons]
  by_cases h : b < x
  · simp [h]
  · simp [h]
theorem F_anti {b b' : Int} (h : b ≤ b') : ∀ {S : List Int}, (∀ x ∈ S, 0 < x) → Fab b' S ≤ Fab b S
  | [], _ => by simp [Fab]
  | x :: r, hp => by
    have := F_anti h (S := r) (fun y hy => hp y (by simp [hy]))
    have hx := hp x (by simp)
    rw [F_cons, F_cons]
    split <;> split <;> omega
theorem F_lt {b b' : Int} (h : b < b') : ∀ {S : List Int}, (∀ x ∈ S, 0 < x) → b' ∈ S → Fab b' S < Fab b S
  | x :: r, hp, hm => by
    have hx := hp x (by simp)
    have ha := F_anti (Int.le_of_lt h) (S := r) (fun y hy => hp y (by simp [hy]))
    rw [F_cons, F_cons]
    rcases List.mem_cons.mp hm with rfl | hm
    · rw [if_neg (Int.lt_irrefl _), if_pos h]; omega
    · have := F_lt h (S := r) (fun y hy => hp y (by simp [hy])) hm
      split <;> split <;> omega
theorem F_same {b b' : Int} : ∀ {S : List Int}, (∀ x ∈ S, b < x ↔ b' < x) → Fab b S = Fab b' S
  | [], _ => rfl
  | x :: r, h => by
    rw [F_cons, F_cons, F_same (S := r) (fun y hy => h y (by simp [hy]))]
    have := h x (by simp)
    by_cases h1 : b < x
    · rw [if_pos h1, if_pos (this.mp h1)]
    · rw [if_neg h1, if_neg (fun z => h1 (this.mpr z))]
theorem F_zero {b : Int} {S : List Int} (h : ∀ x ∈ S, x ≤ b) : Fab b S = 0 := by
  unfold Fab
  rw [List.filter_eq_nil_iff.mpr (fun x hx => by have := h x hx; simp; omega)]; rfl
theorem filt_take {b : Int} : ∀ {S : List Int}, S.Pairwise (· ≥ ·) → ∃ c, c ≤ S.length ∧ S.filter (fun x => decide (b < x)) = S.take c ∧ (∀ x ∈ S.take c, b < x) ∧ ∀ x ∈ S.drop c, x ≤ b
  | [], _ => ⟨0, by simp, rfl, by simp, by simp⟩
  | x :: r, h => by
    have h' := List.pairwise_cons.mp h
    by_cases hb : b < x
    · obtain ⟨c, c1, c2, c3, c4⟩ := filt_take (b := b) h'.2
      refine ⟨c + 1, by simp; omega, by simp [List.filter_cons, hb, c2], fun y hy => ?_, fun y hy => c4 y (by simpa using hy)⟩
      rw [List.take_succ_cons] at hy
      rcases List.mem_cons.mp hy with rfl | hy
      · exact hb
      · exact c3 y hy
    · refine ⟨0, by simp, ?_, by simp, fun y hy => ?_⟩
      · rw [List.take_zero]
        refine List.filter_eq_nil_iff.mpr fun y hy => ?_
        rcases List.mem_cons.mp hy with rfl | hy
        · simpa using hb
        · have := h'.1 y hy
          simp; omega
      · simp only [List.drop_zero] at hy
        rcases List.mem_cons.mp hy with rfl | hy
        · omega
        · have := h'.1 y hy; omega
theorem filt_at {b : Int} {S : List Int} {c : Nat} (h1 : ∀ x ∈ S.take c, b < x) (h2 : ∀ x ∈ S.drop c, x ≤ b) : Fab b S = (S.take c).sum := by
  unfold Fab
  conv => lhs; rw [← List.take_append_drop c S]
  rw [List.filter_append, List.filter_eq_self.mpr (fun x hx => by simpa using h1 x hx), List.filter_eq_nil_iff.mpr (fun x hx => by have := h2 x hx; simp; omega), List.append_nil]
/-- at a place where the swings grow less, or at an end -/
def Cut (S : List Int) (c : Nat) : Prop := c = 0 ∨ c = S.length ∨ S.getD c 0 < S.getD (c - 1) 0
theorem desc_get {S : List Int} (h : S.Pairwise (· ≥ ·)) {i j : Nat} (hij : i ≤ j) (hj : j < S.length) : S.getD j 0 ≤ S.getD i 0 := by
  rw [List.getD_eq_getElem?_getD, List.getD_eq_getElem?_getD, List.getElem?_eq_getElem hj, List.getElem?_eq_getElem (by omega)]
  simp only [Option.getD_some]
  rcases Nat.lt_or_ge i j with q | q
  · exact List.pairwise_iff_getElem.mp h i j _ _ q
  · have : i = j := by omega
    subst this; exact Int.le_refl _
theorem mem_take_get {S : List Int} {c : Nat} {x : Int} (h : x ∈ S.take c) : ∃ i, i < c ∧ i < S.length ∧ S.getD i 0 = x := by
  obtain ⟨i, hi, e⟩ := List.mem_iff_getElem.mp h
  simp only [List.length_take] at hi
  refine ⟨i, by omega, by omega, ?_⟩
  rw [List.getD_eq_getElem?_getD, List.getElem?_eq_getElem (by omega)]
  simpa using e
theorem mem_drop_get {S : List Int} {c : Nat} {x : Int} (h : x ∈ S.drop c) : ∃ i, c ≤ i ∧ i < S.length ∧ S.getD i 0 = x := by
  obtain ⟨i, hi, e⟩ := List.mem_iff_getElem.mp h
  simp only [List.length_drop] at hi
  refine ⟨c + i, by omega, by omega, ?_⟩
  rw [List.getD_eq_getElem?_getD, List.getElem?_eq_getElem (by omega)]
  simpa using e
theorem getD_mem {S : List Int} {c : Nat} (h : c < S.length) : S.getD c 0 ∈ S := by
  rw [List.getD_eq_getElem?_getD, List.getElem?_eq_getElem h]
  exact List.getElem_mem h
theorem cut_F {S : List Int} (hs : S.Pairwise (· ≥ ·)) (hp : ∀ x ∈ S, 0 < x) {c : Nat} (hc : c ≤ S.length) (h : Cut S c) : ∃ b, (b = 0 ∨ b ∈ S) ∧ Fab b S = (S.take c).sum := by
  by_cases he : c = S.length
  · subst he
    exact ⟨0, .inl rfl, filt_at (fun x hx => hp x (List.mem_of_mem_take hx)) (fun x hx => by simp at hx)⟩
  · have hlt : c < S.length := by omega
    refine ⟨S.getD c 0, .inr (getD_mem hlt), filt_at (fun x hx => ?_) (fun x hx => ?_)⟩
    · obtain ⟨i, i1, i2, rfl⟩ := mem_take_get hx
      rcases h with rfl | h | h
      · omega
      · exact absurd h he
      · have := desc_get hs (show i ≤ c - 1 by omega) (by omega); omega
    · obtain ⟨i, i1, i2, rfl⟩ := mem_drop_get hx
      exact desc_get hs i1 i2
theorem F_cut {S : List Int} (hs : S.Pairwise (· ≥ ·)) (b : Int) : ∃ c, c ≤ S.length ∧ Cut S c ∧ Fab b S = (S.take c).sum := by
  obtain ⟨c, c1, c2, c3, c4⟩ := filt_take (b := b) hs
  refine ⟨c, c1, ?_, by unfold Fab; rw [c2]⟩
  unfold Cut
  by_cases h0 : c = 0
  · exact .inl h0
  · by_cases h1 : c = S.length
    · exact .inr (.inl h1)
    · refine .inr (.inr ?_)
      have a1 : S.getD c 0 ≤ b := c4 _ (by
        rw [List.getD_eq_getElem?_getD, List.getElem?_eq_getElem (show c < S.length by omega), List.drop_eq_getElem_cons (show c < S.length by omega)]
        exact List.mem_cons_self)
      have a2 : b < S.getD (c - 1) 0 := c3 _ (by
        rw [List.getD_eq_getElem?_getD, List.getElem?_eq_getElem (by omega)]
        simp only [Option.getD_some]
        exact List.mem_take_iff_getElem.mpr ⟨c - 1, by omega, rfl⟩)
      omega
/-- what thresholds_for tells -/
def ThrB (S : List Int) (seen b : Int) (c : Option Int) : Prop := (b = 0 ∨ b ∈ S) ∧ Fab b S = seen ∧ match c with
  | none => ∀ x ∈ S, x ≤ b
  | some c => c ∈ S ∧ b < c ∧ ∀ x ∈ S, x ≤ b ∨ c ≤ x
theorem thr_end {S : List Int} {seen b : Int} (hp : ∀ x ∈ S, 0 < x) (h : ThrB S seen b none) : seen = 0 := by
  rw [← h.2.1, F_zero h.2.2]
theorem thr_low {S : List Int} {seen b : Int} {c : Option Int} (hp : ∀ x ∈ S, 0 < x) (h : ThrB S seen b c) : 0 ≤ b ∧ (0 < b → Fab (b - 1) S ≠ seen) := by
  rcases h.1 with rfl | hb
  · exact ⟨Int.le_refl _, fun h => absurd h (Int.lt_irrefl _)⟩
  · have := hp b hb
    refine ⟨by omega, fun _ e => ?_⟩
    have := F_lt (show b - 1 < b by omega) hp hb
    have := h.2.1
    omega
theorem thr_high {S : List Int} {seen b c : Int} (hp : ∀ x ∈ S, 0 < x) (h : ThrB S seen b (some c)) : 0 ≤ c - 1 ∧ Fab (c - 1) S = seen ∧ Fab c S ≠ seen := by
  obtain ⟨h1, h2, h3, h4, h5⟩ := h
  have := hp c h3
  refine ⟨by omega, ?_, fun e => ?_⟩
  · rw [← h2]
    refine F_same fun x hx => ?_
    have := h5 x hx
    omega
  · have := F_lt h4 hp h3
    omega
theorem asc_F {t : Int} (ht : 0 ≤ t) {ns : List Int} (hn : 1 ≤ ns.length) : ascW ns t = Fab t (swL ns) := asc_swings ht hn
/-! ### climbs taken away, one step at a time -/
structure Rows (ns : List Int) (rows : List (Nat × Nat)) : Prop where
  ap : ApartN 0 rows
  bd : ∀ q ∈ rows, q.2 < ns.length
  le : rows.length ≤ (swL ns).length
  gap : Gap 1 (rows.map (val2 ns))
  up : ∀ q, 0 ≤ q → upW q (top ns) (flat (rows.map (val2 ns))) = G q ((swL ns).take rows.length)
theorem rows_start (ns : List Int) : Rows ns (runsIx ns) := by
  obtain ⟨a1, a2, a3⟩ := runsIx_vals ns
  refine ⟨a2, a3, by rw [runsIx_len]; exact Nat.le_refl _, by rw [a1]; exact alt_gap (runsT_alt ns), fun q hq => ?_⟩
  rw [a1, runsIx_len, List.take_length, ← runsT_up hq (fun x hx => top_le hx), (swings_spec ns).play q _ hq (fun x hx => top_le hx)]
theorem val_top {ns : List Int} {q : Nat × Nat} (h : q.2 < ns.length) : (val2 ns q).2 ≤ top ns := by
  refine top_le ?_
  unfold val2
  exact getD_mem h
theorem Rows.tops {ns : List Int} {rows : List (Nat × Nat)} (R : Rows ns rows) : ∀ p ∈ rows.map (val2 ns), p.2 ≤ top ns := fun p hp => by
  obtain ⟨q, hq, rfl⟩ := List.mem_map.mp hp
  exact val_top (R.bd q hq)
theorem Rows.gain {ns : List Int} {rows : List (Nat × Nat)} (R : Rows ns rows) : gain (rows.map (val2 ns)) = ((swL ns).take rows.length).sum := by
  have h := R.up 0 (Int.le_refl 0)
  rw [peel.up0 0 [] R.gap R.tops] at h
  rw [h]
  exact G_pos0 fun x hx => (swings_spec ns).pos x (List.mem_of_mem_take hx)
/-- the smallest step: a climb left out, or two joined -/
inductive Less (ns : List Int) (rows : List (Nat × Nat)) : List (Nat × Nat) → Prop
  | out (A B : List (Nat × Nat)) (a b : Nat) (e : rows = A ++ (a, b) :: B) (g : Gap (ns.getD b 0 - ns.getD a 0) (rows.map (val2 ns))) : Less ns rows (A ++ B)
  | join (A B : List (Nat × Nat)) (a b c d : Nat) (e : rows = A ++ (a, b) :: (c, d) :: B) (g : Gap (ns.getD b 0 - ns.getD c 0) (rows.map (val2 ns))) : Less ns rows (A ++ (a, d) :: B)
theorem apart_out : ∀ {A B : List (Nat × Nat)} {p : Nat × Nat} {k : Nat}, ApartN k (A ++ p :: B) → ApartN k (A ++ B)
  | [], B, p, k, h => h.2.2.mono (by have := h.1; have := h.2.1; omega)
  | q :: A, B, p, k, h => ⟨h.1, h.2.1, apart_out h.2.2⟩
theorem apart_join : ∀ {A B : List (Nat × Nat)} {a b c d : Nat} {k : Nat}, ApartN k (A ++ (a, b) :: (c, d) :: B) → ApartN k (A ++ (a, d) :: B)
  | [], B, a, b, c, d, k, h => by
    have h1 : k ≤ a ∧ a < b ∧ b ≤ c ∧ c < d ∧ ApartN d B := h
    exact ⟨h1.1, by show a < d; omega, h1.2.2.2.2⟩
  | q :: A, B, a, b, c, d, k, h => ⟨h.1, h.2.1, apart_join h.2.2⟩
theorem gap_swings {m W : Int} {rows : List (Int × Int)} (g1 : Gap 1 rows) (g : Gap m rows) (hW : ∀ p ∈ rows, p.2 ≤ W) : ∃ S : List Int, S.length = rows.length ∧ S.Pairwise (· ≥ ·) ∧ (∀ s ∈ S, m ≤ s ∧ 1 ≤ s) ∧ ∀ q, 0 ≤ q → upW q W (flat rows) = G q S := by
  obtain ⟨S, s1, s2, s3, s4, s5⟩ := peel rows.length rows rfl g1 hW
  exact ⟨S, s1, s2, fun s hs => ⟨s3 m g s hs, s3 1 g1 s hs⟩, s4⟩
theorem less_take {S T : List Int} {m : Int} {n : Nat} (hs : S.Pairwise (· ≥ ·)) (hp : ∀ x ∈ S, 0 < x) (hn : n < S.length) (hT : T.Pairwise (· ≥ ·)) (hm : 1 ≤ m) (h : ∀ s ∈ T, m ≤ s ∧ 1 ≤ s) (hG : ∀ q, 0 ≤ q → G q (S.take (n + 1)) = G q T + max 0 (m - q)) : T = S.take n := by
  have e : S.take (n + 1) = T ++ [m] := by
    refine desc_unique (swings_perm (fun x hx => hp x (List.mem_of_mem_take hx)) (fun x hx => ?_) fun q hq => ?_) (hs.sublist (List.take_sublist _ _)) ?_
    · rcases List.mem_append.mp hx with hx | hx
      · have := h x hx; omega
      · simp only [List.mem_singleton] at hx; omega
    · rw [hG q hq, G_app, G_one]
    · refine List.pairwise_append.mpr ⟨hT, by simp, fun a ha b hb => ?_⟩
      simp only [List.mem_singleton] at hb
      subst hb
      exact (h a ha).1
  have l : (S.take (n + 1)).length = n + 1 := by rw [List.length_take]; omega
  rw [e, List.length_append] at l
  simp only [List.length_singleton] at l
  have e2 : (S.take (n + 1)).take n = S.take n := by rw [List.take_take]; congr 1; omega
  rw [← e2, e, List.take_append_of_le_length (by omega), List.take_of_length_le (by omega)]
theorem rows_less {ns : List Int} {rows rows' : List (Nat × Nat)} (R : Rows ns rows) (L : Less ns rows rows') : Rows ns rows' ∧ rows'.length + 1 = rows.length := by
  have hS := swings_spec ns
  have fin : ∀ (m : Int) (rows' : List (Nat × Nat)), rows'.length + 1 = rows.length → ApartN 0 rows' → (∀ q ∈ rows', q.2 < ns.length) → 1 ≤ m → Gap m (rows'.map (val2 ns)) →
      (∀ q, 0 ≤ q → upW q (top ns) (flat (rows.map (val2 ns))) = upW q (top ns) (flat (rows'.map (val2 ns))) + max 0 (m - q)) → Rows ns rows' := by
    intro m rows' hl ha hb hm g hu
    have g1 := g.mono hm
    have tp : ∀ p ∈ rows'.map (val2 ns), p.2 ≤ top ns := fun p hp => by
      obtain ⟨q, hq, rfl⟩ := List.mem_map.mp hp
      exact val_top (hb q hq)
    obtain ⟨T, t1, t2, t3, t4⟩ := gap_swings g1 g tp
    have hle := R.le
    have e : T = (swL ns).take rows'.length := less_take hS.sorted hS.pos (by omega) t2 hm t3 fun q hq => by
      rw [hl, ← R.up q hq, hu q hq, t4 q hq]
    exact ⟨ha, hb, by omega, g1, fun q hq => by rw [t4 q hq, e]⟩
  cases L with
  | out A B a b e g =>
    have e2 : rows.map (val2 ns) = A.map (val2 ns) ++ (ns.getD a 0, ns.getD b 0) :: B.map (val2 ns) := by rw [e]; simp [val2]
    have g1 := R.gap
    rw [e2] at g g1
    have m1 : 1 ≤ ns.getD b 0 - ns.getD a 0 := gap_pos g1 (.inl ⟨_, _, _, _, rfl, by omega⟩) g1
    have hl : (A ++ B).length + 1 = rows.length := by rw [e]; simp; omega
    have hb : ns.getD b 0 ≤ top ns := by
      refine top_le (getD_mem (R.bd (a, b) (by rw [e]; simp)))
    refine ⟨fin (ns.getD b 0 - ns.getD a 0) (A ++ B) hl (apart_out (by have := R.ap; rwa [e] at this)) (fun q hq => R.bd q (by rw [e]; simp at hq ⊢; rcases hq with hq | hq <;> simp [hq])) m1 ?_ fun q hq => ?_, hl⟩
    · rw [List.map_append]
      exact gap_rem (by omega) g
    · rw [e2, List.map_append]
      exact up_rem (by omega) hq (by omega) g hb
  | join A B a b c d e g =>
    have e2 : rows.map (val2 ns) = A.map (val2 ns) ++ (ns.getD a 0, ns.getD b 0) :: (ns.getD c 0, ns.getD d 0) :: B.map (val2 ns) := by rw [e]; simp [val2]
    have g1 := R.gap
    rw [e2] at g g1
    have m1 : 1 ≤ ns.getD b 0 - ns.getD c 0 := gap_pos g1 (.inr ⟨_, _, _, _, _, _, rfl, by omega⟩) g1
    have hl : (A ++ (a, d) :: B).length + 1 = rows.length := by rw [e]; simp; omega
    have e3 : (A ++ (a, d) :: B).map (val2 ns) = A.map (val2 ns) ++ (ns.getD a 0, ns.getD d 0) :: B.map (val2 ns) := by simp [val2]
    refine ⟨fin (ns.getD b 0 - ns.getD c 0) (A ++ (a, d) :: B) hl (apart_join (by have := R.ap; rwa [e] at this)) (fun q hq => ?_) m1 ?_ fun q hq => ?_, hl⟩
    · rcases List.mem_append.mp hq with hq | hq
      · exact R.bd q (by rw [e]; simp [hq])
      · rcases List.mem_cons.mp hq with rfl | hq
        · exact R.bd (c, d) (by rw [e]; simp)
        · exact R.bd q (by rw [e]; simp [hq])
    · rw [e3]
      exact gap_mer (by omega) g
    · rw [e2, e3]
      exact up_mer (by omega) hq (by omega) g
/-- a gap, from all costs -/
theorem gap_of {m : Int} : ∀ {rows : List (Int × Int)}, (∀ p ∈ rows, m ≤ p.2 - p.1) → (∀ i, i + 1 < rows.length → m ≤ (rows.getD i (0, 0)).2 - (rows.getD (i + 1) (0, 0)).1) → Gap m rows
  | [], _, _ => trivial
  | [p], h, _ => by have := h p (by simp); show p.1 + m ≤ p.2; omega
  | p :: p' :: r, h, h2 => by
    have h1 := h p (by simp)
    have h3 := h2 0 (by simp)
    simp only [List.getD_cons_zero, List.getD_cons_succ] at h3
    refine ⟨by omega, by omega, gap_of (fun x hx => h x (by simp [hx])) fun i hi => ?_⟩
    have := h2 (i + 1) (by simp at hi ⊢; omega)
    simpa using this
/-! ### climbs that are apart never gain more -/
theorem dbl_drop : ∀ (ns : List Int) (k : Nat), dbl (ns.drop k) = (dbl ns).drop (2 * k)
  | ns, 0 => rfl
  | [], k + 1 => by simp [dbl]
  | x :: r, k + 1 => by
    have e : 2 * (k + 1) = 2 * k + 1 + 1 := by omega
    rw [e]
    simp only [List.drop_succ_cons, dbl]
    exact dbl_drop r k
theorem drop_at {ns : List Int} {i : Nat} (h : i < ns.length) : ns.drop i = ns.getD i 0 :: ns.drop (i + 1) := by
  rw [List.drop_eq_getElem_cons h, List.getD_eq_getElem?_getD, List.getElem?_eq_getElem h]; rfl
theorem apart_sub {ns : List Int} : ∀ {rows : List (Nat × Nat)} {k : Nat}, ApartN k rows → (∀ q ∈ rows, q.2 < ns.length) →
    (flat (rows.map (val2 ns))).Sublist (dbl (ns.drop k)) ∧ ∀ j t, k = j + 1 → j < ns.length → (t :: flat (rows.map (val2 ns))).Sublist (t :: dbl (ns.drop k))
  | [], k, _, _ => ⟨List.nil_sublist _, fun j t _ _ => (List.nil_sublist _).cons_cons t⟩
  | (a, b) :: r, k, h, hb => by
    have h1 : k ≤ a ∧ a < b ∧ ApartN b r := h
    have hb1 := hb (a, b) (by simp)
    simp only at hb1
    have main : (flat (((a, b) :: r).map (val2 ns))).Sublist (dbl (ns.drop k)) := by
      have s0 : (dbl (ns.drop a)).Sublist (dbl (ns.drop k)) := by
        rw [dbl_drop, dbl_drop]
        exact List.drop_sublist_drop_left _ (by omega)
      refine List.Sublist.trans ?_ s0
      rw [drop_at (show a < ns.length by omega)]
      simp only [List.map_cons, flat, dbl, val2]
      refine List.Sublist.cons_cons _ (List.Sublist.cons _ ?_)
      have s1 : (dbl (ns.drop b)).Sublist (dbl (ns.drop (a + 1))) := by
        rw [dbl_drop, dbl_drop]
        exact List.drop_sublist_drop_left _ (by omega)
      refine List.Sublist.trans ?_ s1
      rw [drop_at hb1]
      simp only [dbl]
      refine List.Sublist.cons_cons _ ?_
      have ih := (apart_sub' (ns := ns) h1.2.2 (fun q hq => hb q (by simp [hq])) hb1)
      exact ih
    exact ⟨main, fun j t _ _ => main.cons_cons t⟩
where
  apart_sub' : ∀ {ns : List Int} {rows : List (Nat × Nat)} {b : Nat}, ApartN b rows → (∀ q ∈ rows, q.2 < ns.length) → b < ns.length → (flat (rows.map (val2 ns))).Sublist (ns.getD b 0 :: dbl (ns.drop (b + 1)))
    | ns, [], b, _, _, _ => List.nil_sublist _
    | ns, (c, d) :: r, b, h, hq, hb => by
      have h1 : b ≤ c ∧ c < d ∧ ApartN d r := h
      have hd := hq (c, d) (by simp)
      simp only at hd
      have ih := apart_sub' (ns := ns) h1.2.2 (fun q hq' => hq q (by simp [hq'])) hd
      simp only [List.map_cons, flat, val2]
      have tail : (ns.getD d 0 :: flat (r.map (val2 ns))).Sublist (dbl (ns.drop (c + 1))) := by
        have s1 : (dbl (ns.drop d)).Sublist (dbl (ns.drop (c + 1))) := by
          rw [dbl_drop, dbl_drop]
          exact List.drop_sublist_drop_left _ (by omega)
        refine List.Sublist.trans ?_ s1
        rw [drop_at hd]
        simp only [dbl]
        exact ih.cons_cons _
      by_cases e : b = c
      · subst e
        exact tail.cons_cons _
      · refine List.Sublist.cons _ ?_
        have s0 : (dbl (ns.drop c)).Sublist (dbl (ns.drop (b + 1))) := by
          rw [dbl_drop, dbl_drop]
          exact List.drop_sublist_drop_left _ (by omega)
        refine List.Sublist.trans ?_ s0
        rw [drop_at (show c < ns.length by omega)]
        simp only [dbl]
        exact (tail.cons _).cons_cons _
theorem apart_best {ns : List Int} {rows : List (Nat × Nat)} (h : ApartN 0 rows) (hb : ∀ q ∈ rows, q.2 < ns.length) : gain (rows.map (val2 ns)) ≤ best rows.length ns := by
  have := best_ge (apart_sub (ns := ns) h hb).1
  rw [List.drop_zero, List.length_map, best_dbl] at this
  exact this
end K

namespace K
open PySem PySem.Spec PyProof.Rows L2 DL
theorem cut_neg {α : Type} (l : List α) (k : Nat) (h : 1 ≤ k) : cutL l (some (-(k : Int))) none = l.drop (l.length - k) := by
  unfold cutL
  rw [HT.sIx_none]
  have e : HT.sIx l.length 0 (some (-(k : Int))) = l.length - k := by
    unfold HT.sIx
    simp only
    rw [if_pos (by omega)]; omega
  rw [e]
  exact List.take_of_length_le (by simp)
theorem mem_cut {α : Type} {l : List α} {a b : Option Int} {x : α} (h : x ∈ cutL l a b) : x ∈ l := List.mem_of_mem_drop (List.mem_of_mem_take h)
/-- sums of what is above -/
def abD (b : Int) (d : PyData) : Bool := match d with | .int x => decide (b < x) | _ => false
theorem F_filter (b : Int) (S : List Int) : (S.map PyData.int).filter (abD b) = (S.filter fun x => decide (b < x)).map PyData.int := by
  induction S with
  | nil => rfl
  | cons x r ih => simp only [List.map_cons, List.filter_cons, ih, abD]; split <;> rfl
theorem zip_next (ns : List Int) : zipD (ns.map PyData.int) ((ns.map PyData.int).drop 1) = (ns.zip (ns.drop 1)).map pairD := by
  unfold zipD
  rw [← List.map_drop, List.zip_map, List.map_map]
  rfl
theorem rises_zip : ∀ ns : List Int, ((ns.zip (ns.drop 1)).map fun p => if p.2 - p.1 > 0 then p.2 - p.1 else 0).sum = rises ns
  | [] => rfl
  | [x] => rfl
  | x :: y :: r => by
    have ih := rises_zip (y :: r)
    simp only [List.drop_succ_cons, List.drop_zero, List.zip_cons_cons, List.map_cons, List.sum_cons, rises] at ih ⊢
    rw [ih]
    split <;> omega
end K

namespace K
open DL (srt srt_perm srt_sorted srt_of sorted_unique)
/-! ### repeated tracks -/
def repL {α : Type} (r : Nat) (ns : List α) : List α := (List.replicate r ns).flatten
theorem repL_succ {α : Type} (r : Nat) (ns : List α) : repL (r + 1) ns = ns ++ repL r ns := by unfold repL; rw [List.replicate_succ, List.flatten_cons]
theorem repL_zero {α : Type} (ns : List α) : repL 0 ns = [] := rfl
theorem repL_one {α : Type} (ns : List α) : repL 1 ns = ns := by rw [repL_succ, repL_zero, List.append_nil]
theorem repL_len {α : Type} (ns : List α) : ∀ r : Nat, (repL r ns).length = r * ns.length
  | 0 => by simp [repL_zero]
  | r + 1 => by rw [repL_succ, List.length_append, repL_len ns r, Nat.succ_mul]; omega
theorem repL_mem {α : Type} {ns : List α} {x : α} : ∀ {r : Nat}, x ∈ repL r ns → x ∈ ns
  | 0, h => by simp [repL_zero] at h
  | r + 1, h => by
    rw [repL_succ] at h
    rcases List.mem_append.mp h with h | h
    · exact h
    · exact repL_mem h
theorem repL_map {α β : Type} (f : α → β) (ns : List α) : ∀ r : Nat, (repL r ns).map f = repL r (ns.map f)
  | 0 => rfl
  | r + 1 => by rw [repL_succ, repL_succ, List.map_append, repL_map f ns r]
/-- parted at a highest height -/
theorem G_rep {q m : Int} (hq : 0 ≤ q) {A B : List Int} (h : ∀ x ∈ A ++ m :: B, x ≤ m) : ∀ r : Nat, G q (swL (repL (r + 1) (A ++ m :: B))) = G q (swL (A ++ [m])) + (r : Int) * G q (swL (m :: B ++ (A ++ [m]))) + G q (swL (m :: B))
  | 0 => by rw [repL_one, G_part hq (.inl h)]; simp
  | r + 1 => by
    have ih := G_rep hq h r
    have hall : ∀ k, ∀ x ∈ repL k (A ++ m :: B), x ≤ m := fun k x hx => h x (repL_mem hx)
    have hA : ∀ x ∈ A, x ≤ m := fun x hx => h x (by simp [hx])
    have hB : ∀ x ∈ B, x ≤ m := fun x hx => h x (by simp [hx])
    have e1 : repL (r + 1) (A ++ m :: B) = A ++ m :: (B ++ repL r (A ++ m :: B)) := by rw [repL_succ]; simp
    have e2 : repL (r + 2) (A ++ m :: B) = A ++ m :: (B ++ A ++ m :: (B ++ repL r (A ++ m :: B))) := by rw [repL_succ, e1]; simp
    have e3 : m :: (B ++ A ++ m :: (B ++ repL r (A ++ m :: B))) = (m :: (B ++ A)) ++ m :: (B ++ repL r (A ++ m :: B)) := by simp
    have p1 := G_part (q := q) hq (A := A) (m := m) (B := B ++ repL r (A ++ m :: B)) (.inl fun x hx => hall (r + 1) x (by rw [e1]; exact hx))
    have p2 := G_part (q := q) hq (A := A) (m := m) (B := B ++ A ++ m :: (B ++ repL r (A ++ m :: B))) (.inl fun x hx => hall (r + 2) x (by rw [e2]; exact hx))
    have p3 := G_part (q := q) hq (A := m :: (B ++ A)) (m := m) (B := B ++ repL r (A ++ m :: B)) (.inl fun x hx => hall (r + 2) x (by rw [e2, e3]; simp at hx ⊢; rcases hx with hx | hx | hx | hx | hx <;> simp [hx]))
    have e4 : (m :: (B ++ A)) ++ [m] = m :: B ++ (A ++ [m]) := by simp
    rw [e4] at p3
    rw [e1] at ih
    rw [e2, p2, e3, p3]
    rw [p1] at ih
    have e5 : ((r + 1 : Nat) : Int) * G q (swL (m :: B ++ (A ++ [m]))) = (r : Int) * G q (swL (m :: B ++ (A ++ [m]))) + G q (swL (m :: B ++ (A ++ [m]))) := by
      rw [Int.natCast_succ, Int.add_mul, Int.one_mul]
    rw [e5]; omega
theorem G_repL (q : Int) (xs : List Int) : ∀ r : Nat, G q (repL r xs) = (r : Int) * G q xs
  | 0 => by simp [repL_zero, G_nil]
  | r + 1 => by rw [repL_succ, G_app, G_repL q xs r, Int.natCast_succ, Int.add_mul, Int.one_mul]; omega
/-- the three parts' swings -/
def cutA (ns : List Int) (m : Int) : List Int := ns.take (ns.idxOf m + 1)
def cutB (ns : List Int) (m : Int) : List Int := ns.drop (ns.idxOf m)
theorem cut_at {ns : List Int} {m : Int} (hm : m ∈ ns) : ∃ A B, ns = A ++ m :: B ∧ cutA ns m = A ++ [m] ∧ cutB ns m = m :: B := by
  have hl := List.idxOf_lt_length_of_mem hm
  have hg : ns[ns.idxOf m] = m := List.getElem_idxOf hl
  have e := List.drop_eq_getElem_cons hl
  rw [hg] at e
  refine ⟨ns.take (ns.idxOf m), ns.drop (ns.idxOf m + 1), ?_, ?_, e⟩
  · rw [← e, List.take_append_drop]
  · unfold cutA
    rw [List.take_succ_eq_append_getElem hl, hg]
theorem rep_perm {ns : List Int} {m : Int} (hm : m ∈ ns) (h : ∀ x ∈ ns, x ≤ m) (r : Nat) : (swL (repL (r + 1) ns)).Perm (swL (cutA ns m) ++ repL r (swL (cutB ns m ++ cutA ns m)) ++ swL (cutB ns m)) := by
  obtain ⟨A, B, e, e1, e2⟩ := cut_at hm
  rw [e1, e2]
  refine swings_perm (swings_spec _).pos (fun x hx => ?_) fun q hq => ?_
  · rcases List.mem_append.mp hx with hx | hx
    · rcases List.mem_append.mp hx with hx | hx
      · exact (swings_spec _).pos x hx
      · exact (swings_spec _).pos x (repL_mem hx)
    · exact (swings_spec _).pos x hx
  · subst e
    rw [G_rep hq h r, G_app, G_app, G_repL]
theorem count_repL (s : Int) (xs : List Int) : ∀ r : Nat, (repL r xs).count s = r * xs.count s
  | 0 => by simp [repL_zero]
  | r + 1 => by rw [repL_succ, List.count_append, count_repL s xs r, Nat.succ_mul]; omega
/-- how often a swing occurs -/
def wgt (ns : List Int) (m : Int) (r s : Int) : Int := ((swL (cutA ns m)).count s : Nat) + (r - 1) * ((swL (cutB ns m ++ cutA ns m)).count s : Nat) + ((swL (cutB ns m)).count s : Nat)
theorem wgt_count {ns : List Int} {m : Int} (hm : m ∈ ns) (h : ∀ x ∈ ns, x ≤ m) {r : Int} (hr : 1 ≤ r) (s : Int) : wgt ns m r s = ((swL (repL r.toNat ns)).count s : Nat) := by
  obtain ⟨k, rfl⟩ : ∃ k : Nat, r = (k : Int) + 1 := ⟨(r - 1).toNat, by omega⟩
  have e : ((k : Int) + 1).toNat = k + 1 := by omega
  rw [e, (rep_perm hm h k).count_eq]
  unfold wgt
  rw [List.count_append, List.count_append, count_repL]
  have : (k : Int) + 1 - 1 = k := by omega
  rw [this]
  simp only [Int.natCast_add, Int.natCast_mul]
theorem wgt_nonneg {ns : List Int} {m : Int} {r : Int} (hr : 1 ≤ r) (s : Int) : 0 ≤ wgt ns m r s := by
  unfold wgt
  have : 0 ≤ (r - 1) * ((swL (cutB ns m ++ cutA ns m)).count s : Nat) := Int.mul_nonneg (by omega) (by omega)
  omega
/-! ### all members, ascending, each once -/
def insD (x : Int) : List Int → List Int
  | [] => [x]
  | y :: r => if x < y then x :: y :: r else if x = y then y :: r else y :: insD x r
def asc (xs : List Int) : List Int := xs.foldr insD []
theorem mem_insD {x y : Int} : ∀ {l : List Int}, y ∈ insD x l ↔ y = x ∨ y ∈ l
  | [] => by simp [insD]
  | z :: r => by
    unfold insD
    split
    · simp
    · split
      · rename_i h1 h2; subst h2; simp
      · have := mem_insD (x := x) (y := y) (l := r)
        simp only [List.mem_cons, this]
        constructor
        · rintro (h | h | h) <;> simp [h]
        · rintro (h | h | h) <;> simp [h]
theorem insD_lt {x : Int} : ∀ {l : List Int}, l.Pairwise (· < ·) → (insD x l).Pairwise (· < ·)
  | [], _ => by simp [insD]
  | z :: r, h => by
    have h1 := List.pairwise_cons.mp h
    unfold insD
    split
    · rename_i hx
      exact List.pairwise_cons.mpr ⟨fun y hy => by
        rcases List.mem_cons.mp hy with rfl | hy
        · exact hx
        · have := h1.1 y hy; omega, h⟩
    · split
      · exact h
      · rename_i h2 h3
        refine List.pairwise_cons.mpr ⟨fun y hy => ?_, insD_lt h1.2⟩
        rcases mem_insD.mp hy with rfl | hy
        · omega
        · exact h1.1 y hy
theorem mem_asc {x : Int} : ∀ {l : List Int}, x ∈ asc l ↔ x ∈ l
  | [] => by simp [asc]
  | y :: r => by
    show x ∈ insD y (asc r) ↔ _
    rw [mem_insD, mem_asc (l := r), List.mem_cons]
theorem asc_lt : ∀ l : List Int, (asc l).Pairwise (· < ·)
  | [] => .nil
  | y :: r => insD_lt (asc_lt r)
theorem nodup_lt {l : List Int} (h : l.Pairwise (· < ·)) : l.Nodup := h.imp fun h e => by omega
theorem lt_unique {a b : List Int} (ha : a.Pairwise (· < ·)) (hb : b.Pairwise (· < ·)) (h : ∀ x, x ∈ a ↔ x ∈ b) : a = b :=
  sorted_unique ((List.perm_ext_iff_of_nodup (nodup_lt ha) (nodup_lt hb)).mpr h) (ha.imp fun h => by omega) (hb.imp fun h => by omega)
theorem asc_of {a xs : List Int} (ha : a.Pairwise (· < ·)) (h : ∀ x, x ∈ a ↔ x ∈ xs) : a = asc xs := lt_unique ha (asc_lt xs) fun x => by rw [h x, mem_asc]
/-- the swings with their numbers, the largest one first -/
def tally (T : List Int) : List (Int × Int) := (asc T).reverse.map fun s => (s, ((T.count s : Nat) : Int))
theorem tally_of {keys T : List Int} {w : Int → Int} (nd : keys.Nodup) (hk : ∀ s, 0 < w s → s ∈ keys) (hw : ∀ s, w s = (T.count s : Nat)) : ((srt keys).reverse.filter fun s => decide (0 < w s)).map (fun s => (s, w s)) = tally T := by
  have e1 : (srt keys).filter (fun s => decide (0 < w s)) = asc T := by
    refine asc_of ?_ fun x => ?_
    · refine List.Pairwise.filter _ ?_
      have s1 := srt_sorted keys
      have s2 : (srt keys).Nodup := (srt_perm keys).nodup_iff.mpr nd
      exact (s1.and s2).imp fun h => by omega
    · rw [List.mem_filter, (srt_perm keys).mem_iff, decide_eq_true_eq, hw x]
      constructor
      · rintro ⟨_, h⟩
        exact List.count_pos_iff.mp (by omega)
      · intro h
        have := List.count_pos_iff.mpr h
        exact ⟨hk x (by rw [hw x]; omega), by omega⟩
  unfold tally
  rw [List.filter_reverse, e1]
  exact List.map_congr_left fun s _ => by rw [hw s]
theorem rep_count (n : Nat) (s : Int) (x : Int) : (List.replicate n s).count x = if x = s then n else 0 := by
  rw [List.count_replicate]
  by_cases h : x = s
  · subst h; simp
  · have : ¬ (s == x) = true := by simpa using fun z => h z.symm
    rw [if_neg this, if_neg h]
/-- .. told at length -/
theorem tally_flat {T : List Int} (hT : T.Pairwise (· ≥ ·)) : (tally T).flatMap (fun p => List.replicate p.2.toNat p.1) = T := by
  have go : ∀ (l : List Int) (f : Int → Nat), l.Pairwise (· > ·) → (l.flatMap fun s => List.replicate (f s) s).Pairwise (· ≥ ·) ∧ ∀ x, (l.flatMap fun s => List.replicate (f s) s).count x = if x ∈ l then f x else 0 := by
    intro l f
    induction l with
    | nil => intro _; exact ⟨.nil, fun x => by simp⟩
    | cons s r ih =>
      intro h
      obtain ⟨h1, h2⟩ := List.pairwise_cons.mp h
      obtain ⟨i1, i2⟩ := ih h2
      rw [List.flatMap_cons]
      refine ⟨List.pairwise_append.mpr ⟨List.pairwise_replicate.mpr (.inr (Int.le_refl _)), i1, fun a ha b hb => ?_⟩, fun x => ?_⟩
      · obtain ⟨_, rfl⟩ := List.mem_replicate.mp ha
        obtain ⟨c, hc, hb⟩ := List.mem_flatMap.mp hb
        obtain ⟨_, rfl⟩ := List.mem_replicate.mp hb
        have := h1 _ hc; omega
      · rw [List.count_append, i2, rep_count]
        by_cases hx : x = s
        · subst hx
          have : x ∉ r := fun z => by have := h1 x z; omega
          simp [this]
        · simp [hx]
  have hd : (asc T).reverse.Pairwise (· > ·) := List.pairwise_reverse.mpr (asc_lt T)
  obtain ⟨g1, g2⟩ := go (asc T).reverse (fun s => T.count s) hd
  unfold tally
  rw [List.flatMap_map]
  have e : ((asc T).reverse.flatMap fun a => List.replicate (((T.count a : Nat) : Int)).toNat a) = (asc T).reverse.flatMap fun s => List.replicate (T.count s) s := by
    congr 1
  show ((asc T).reverse.flatMap fun a => List.replicate (((T.count a : Nat) : Int)).toNat a) = T
  rw [e]
  refine desc_unique (List.perm_iff_count.mpr fun x => ?_) g1 hT
  rw [g2]
  split
  · rfl
  · rename_i h
    rw [List.mem_reverse, mem_asc] at h
    rw [List.count_eq_zero_of_not_mem h]
theorem tally_pos {T : List Int} : ∀ p ∈ tally T, 0 < p.2 ∧ p.1 ∈ T := fun p hp => by
  obtain ⟨s, hs, rfl⟩ := List.mem_map.mp hp
  rw [List.mem_reverse, mem_asc] at hs
  have := List.count_pos_iff.mpr hs
  exact ⟨by simp; exact hs, hs⟩
/-- the gain, run by run -/
def gainT : List (Int × Int) → Int → Int
  | [], _ => 0
  | (s, n) :: r, c => s * min n c + gainT r (c - min n c)
theorem rep_take_sum (n c : Nat) (s : Int) : ((List.replicate n s).take c).sum = s * (min n c : Nat) := by
  rw [List.take_replicate]
  have : ∀ k : Nat, (List.replicate k s).sum = s * (k : Int) := fun k => by
    induction k with
    | zero => simp
    | succ k ih => rw [List.replicate_succ, List.sum_cons, ih, Int.natCast_succ, Int.mul_add]; omega
  rw [this, Nat.min_comm]
theorem gainT_flat : ∀ (l : List (Int × Int)) (c : Nat), (∀ p ∈ l, 0 ≤ p.2) → gainT l c = ((l.flatMap fun p => List.replicate p.2.toNat p.1).take c).sum
  | [], c, _ => by simp [gainT]
  | (s, n) :: r, c, h => by
    have h0 := h (s, n) (by simp)
    simp only at h0
    obtain ⟨k, rfl⟩ := Int.eq_ofNat_of_zero_le h0
    rw [List.flatMap_cons, List.take_append, List.sum_append]
    simp only [gainT, Int.toNat_natCast, List.length_replicate]
    rw [rep_take_sum]
    have e : (c : Int) - min (k : Int) (c : Int) = ((c - k : Nat) : Int) := by omega
    rw [e, gainT_flat r (c - k) fun p hp => h p (by simp [hp])]
    have e2 : (min (k : Int) (c : Int)) = ((min k c : Nat) : Int) := by omega
    rw [e2]
theorem gainT_tally {T : List Int} (hT : T.Pairwise (· ≥ ·)) {c : Int} (hc : 0 ≤ c) : gainT (tally T) c = (T.take c.toNat).sum := by
  obtain ⟨k, rfl⟩ := Int.eq_ofNat_of_zero_le hc
  rw [gainT_flat _ _ fun p hp => by have := (tally_pos p hp).1; omega, tally_flat hT]; rfl
/-- the ascent -/
theorem above_flat (t : Int) : ∀ l : List (Int × Int), (∀ p ∈ l, 0 ≤ p.2) → ((l.filter fun p => decide (t < p.1)).map fun p => p.1 * p.2).sum = ((l.flatMap fun p => List.replicate p.2.toNat p.1).filter fun x => decide (t < x)).sum
  | [], _ => rfl
  | (s, n) :: r, h => by
    have h0 := h (s, n) (by simp)
    simp only at h0
    obtain ⟨k, rfl⟩ := Int.eq_ofNat_of_zero_le h0
    have ih := above_flat t r fun p hp => h p (by simp [hp])
    rw [List.flatMap_cons, List.filter_append, List.sum_append, List.filter_cons, ← ih]
    simp only [Int.toNat_natCast]
    by_cases hs : t < s
    · have e : (List.replicate k s).filter (fun x => decide (t < x)) = List.replicate k s := List.filter_eq_self.mpr fun x hx => by
        obtain ⟨_, rfl⟩ := List.mem_replicate.mp hx; simpa using hs
      have := rep_take_sum k k s
      rw [List.take_of_length_le (by simp), Nat.min_self] at this
      rw [e, this]
      simp [hs]
    · have e : (List.replicate k s).filter (fun x => decide (t < x)) = [] := List.filter_eq_nil_iff.mpr fun x hx => by
        obtain ⟨_, rfl⟩ := List.mem_replicate.mp hx; simpa using hs
      rw [e]
      simp [hs]
theorem above_tally {T : List Int} (hT : T.Pairwise (· ≥ ·)) (t : Int) : (((tally T).filter fun p => decide (t < p.1)).map fun p => p.1 * p.2).sum = (T.filter fun x => decide (t < x)).sum := by
  rw [above_flat t _ fun p hp => by have := (tally_pos p hp).1; omega, tally_flat hT]
theorem nodup_len : ∀ {l xs : List Int}, l.Nodup → (∀ x ∈ l, x ∈ xs) → l.length ≤ xs.length
  | [], _, _, _ => Nat.zero_le _
  | x :: r, xs, nd, h => by
    obtain ⟨n1, n2⟩ := List.nodup_cons.mp nd
    have hx := h x (by simp)
    have ih := nodup_len (l := r) (xs := xs.erase x) n2 fun y hy => (List.mem_erase_of_ne fun e => n1 (by rw [← e]; exact hy)).mpr (h y (by simp [hy]))
    rw [List.length_erase_of_mem hx] at ih
    have := List.length_pos_of_mem hx
    simp only [List.length_cons]; omega
theorem max_ex : ∀ {ns : List Int}, 1 ≤ ns.length → ∃ m ∈ ns, ∀ x ∈ ns, x ≤ m
  | [x], _ => ⟨x, by simp, by simp⟩
  | x :: y :: r, _ => by
    obtain ⟨m, hm, hM⟩ := max_ex (ns := y :: r) (by simp)
    by_cases h : x ≤ m
    · exact ⟨m, by simp at hm ⊢; exact .inr hm, fun z hz => by rcases List.mem_cons.mp hz with rfl | hz; exact h; exact hM z hz⟩
    · exact ⟨x, by simp, fun z hz => by rcases List.mem_cons.mp hz with rfl | hz; omega; have := hM z hz; omega⟩
theorem tally_len {ns : List Int} (h1 : 1 ≤ ns.length) {r : Nat} (hr : 1 ≤ r) : (tally (swL (repL r ns))).length ≤ ns.length + 1 := by
  obtain ⟨m, hm, hM⟩ := max_ex h1
  obtain ⟨k, rfl⟩ : ∃ k, r = k + 1 := ⟨r - 1, by omega⟩
  have p := rep_perm hm hM k
  unfold tally
  rw [List.length_map, List.length_reverse]
  have hl := nodup_len (l := asc (swL (repL (k + 1) ns))) (xs := swL (cutA ns m) ++ swL (cutB ns m ++ cutA ns m) ++ swL (cutB ns m)) (nodup_lt (asc_lt _)) fun x hx => by
    rw [mem_asc, p.mem_iff] at hx
    simp only [List.mem_append] at hx ⊢
    rcases hx with (hx | hx) | hx
    · exact .inl (.inl hx)
    · exact .inl (.inr (repL_mem hx))
    · exact .inr hx
  have lAB : (cutA ns m).length + (cutB ns m).length = ns.length + 1 := by
    have htop := List.idxOf_lt_length_of_mem hm
    unfold cutA cutB; rw [List.length_take, List.length_drop]; omega
  have hA := (swings_spec (cutA ns m)).half
  have hB := (swings_spec (cutB ns m)).half
  have hMh := (swings_spec (cutB ns m ++ cutA ns m)).half
  rw [List.length_append] at hMh
  simp only [List.length_append] at hl
  omega
/-- told by its three parts -/
theorem tally_parts {ns : List Int} {m : Int} (hm : m ∈ ns) (h : ∀ x ∈ ns, x ≤ m) {r : Int} (hr : 1 ≤ r) :
    tally (swL (repL r.toNat ns)) = ((asc (swL (cutA ns m) ++ swL (cutB ns m ++ cutA ns m) ++ swL (cutB ns m))).reverse.filter fun s => decide (0 < wgt ns m r s)).map fun s => (s, wgt ns m r s) := by
  rw [← tally_of (keys := asc (swL (cutA ns m) ++ swL (cutB ns m ++ cutA ns m) ++ swL (cutB ns m))) (w := wgt ns m r) (nodup_lt (asc_lt _)) (fun s hs => ?_) (fun s => wgt_count hm h hr s)]
  · have e : ∀ xs, srt (asc xs) = asc xs := fun xs => (srt_of (List.Perm.refl _) ((asc_lt xs).imp fun h => by omega)).symm
    rw [e]
  · rw [mem_asc]
    have e := wgt_count hm h hr s
    rw [e] at hs
    have hs2 : s ∈ swL (repL r.toNat ns) := List.count_pos_iff.mp (by omega)
    obtain ⟨k, hk⟩ : ∃ k, r.toNat = k + 1 := ⟨r.toNat - 1, by omega⟩
    rw [hk, (rep_perm hm h k).mem_iff] at hs2
    simp only [List.mem_append] at hs2 ⊢
    rcases hs2 with (hx | hx) | hx
    · exact .inl (.inl hx)
    · exact .inl (.inr (repL_mem hx))
    · exact .inr hx
/-- the largest number -/
theorem tally_num {T : List Int} : ∀ p ∈ tally T, p.2 ≤ T.length := fun p hp => by
  obtain ⟨s, hs, rfl⟩ := List.mem_map.mp hp
  have := List.count_le_length (a := s) (l := T)
  simp only; omega
end K

namespace K
open DL (srt srt_perm srt_sorted srt_of sorted_unique)
/-! ### parts between the first highest and the first lowest place (k09) -/
def hiV : List Int → Int
  | [] => 0
  | [x] => x
  | x :: y :: r => max x (hiV (y :: r))
theorem hiV_is : ∀ {ns : List Int}, 1 ≤ ns.length → hiV ns ∈ ns ∧ ∀ y ∈ ns, y ≤ hiV ns
  | [x], _ => by simp [hiV]
  | x :: y :: r, _ => by
    obtain ⟨h1, h2⟩ := hiV_is (ns := y :: r) (by simp)
    have e : hiV (x :: y :: r) = max x (hiV (y :: r)) := rfl
    rw [e]
    refine ⟨?_, fun z hz => ?_⟩
    · rcases (by omega : max x (hiV (y :: r)) = x ∨ max x (hiV (y :: r)) = hiV (y :: r)) with h | h
      · rw [h]; simp
      · rw [h]; exact List.mem_cons_of_mem _ h1
    · rcases List.mem_cons.mp hz with rfl | hz
      · omega
      · have := h2 z hz; omega
def loV : List Int → Int
  | [] => 0
  | [x] => x
  | x :: y :: r => min x (loV (y :: r))
theorem loV_is : ∀ {ns : List Int}, 1 ≤ ns.length → loV ns ∈ ns ∧ ∀ y ∈ ns, loV ns ≤ y
  | [x], _ => by simp [loV]
  | x :: y :: r, _ => by
    obtain ⟨h1, h2⟩ := loV_is (ns := y :: r) (by simp)
    have e : loV (x :: y :: r) = min x (loV (y :: r)) := rfl
    rw [e]
    refine ⟨?_, fun z hz => ?_⟩
    · rcases (by omega : min x (loV (y :: r)) = x ∨ min x (loV (y :: r)) = loV (y :: r)) with h | h
      · rw [h]; simp
      · rw [h]; exact List.mem_cons_of_mem _ h1
    · rcases List.mem_cons.mp hz with rfl | hz
      · omega
      · have := h2 z hz; omega
theorem hiV_of {ns : List Int} {m : Int} (h : m ∈ ns) (h2 : ∀ y ∈ ns, y ≤ m) : m = hiV ns := by
  obtain ⟨h3, h4⟩ := hiV_is (ns := ns) (List.length_pos_iff.mpr (List.ne_nil_of_mem h))
  have := h2 _ h3; have := h4 _ h; omega
theorem loV_of {ns : List Int} {m : Int} (h : m ∈ ns) (h2 : ∀ y ∈ ns, m ≤ y) : m = loV ns := by
  obtain ⟨h3, h4⟩ := loV_is (ns := ns) (List.length_pos_iff.mpr (List.ne_nil_of_mem h))
  have := h2 _ h3; have := h4 _ h; omega
def cutsL (ns : List Int) : List Int := asc [0, ((ns.idxOf (hiV ns) : Nat) : Int), ((ns.idxOf (loV ns) : Nat) : Int), (ns.length : Int) - 1]
def segI (ns : List Int) (p : Int × Int) : List Int := (ns.take (p.2 + 1).toNat).drop p.1.toNat
def partsL (ns : List Int) : List (List Int) := (if (cutsL ns).length = 1 then [ns] else []) ++ ((cutsL ns).zip ((cutsL ns).drop 1)).map (segI ns)
/-- a place to cut at -/
def Okc (ns : List Int) (b : Int) : Prop := 0 ≤ b ∧ b < ns.length ∧ (b = (ns.length : Int) - 1 ∨ ∃ m, ns[b.toNat]? = some m ∧ ((∀ x ∈ ns, x ≤ m) ∨ ∀ x ∈ ns, m ≤ x))
theorem swL_one (x : Int) : swL [x] = [] := by
  have S := swings_spec [x]
  have h2 := S.half
  cases h : swL [x] with
  | nil => rfl
  | cons a r => rw [h] at h2; simp only [List.length_cons, List.length_nil] at h2; omega
theorem G_last {q : Int} {ns : List Int} (h : 1 ≤ ns.length) : G q (swL (ns.drop ((ns.length : Int) - 1).toNat)) = 0 := by
  have hl : (ns.drop ((ns.length : Int) - 1).toNat).length = 1 := by rw [List.length_drop]; omega
  obtain ⟨x, e⟩ := List.length_eq_one_iff.mp hl
  rw [e, swL_one]; rfl
theorem G_seg {q : Int} (hq : 0 ≤ q) {ns : List Int} {a b : Int} (h0 : 0 ≤ a) (hab : a < b) (ok : Okc ns b) : G q (swL (ns.drop a.toNat)) = G q (swL (segI ns (a, b))) + G q (swL (ns.drop b.toNat)) := by
  obtain ⟨b0, b1, hb⟩ := ok
  have hbt : b.toNat < ns.length := by omega
  have e1 : (b + 1).toNat = b.toNat + 1 := by omega
  rcases hb with hb | ⟨m, hm, hx⟩
  · have e2 : segI ns (a, b) = ns.drop a.toNat := by
      unfold segI
      simp only
      rw [List.take_of_length_le (by omega)]
    rw [e2, hb, G_last (by omega)]; omega
  · have hm' : ns[b.toNat] = m := by rw [List.getElem?_eq_getElem hbt] at hm; exact Option.some.inj hm
    have ed : ns.drop b.toNat = m :: ns.drop (b.toNat + 1) := by rw [List.drop_eq_getElem_cons hbt, hm']
    have es : segI ns (a, b) = (ns.take b.toNat).drop a.toNat ++ [m] := by
      unfold segI
      simp only
      rw [e1, List.take_add_one, hm, Option.toList_some, List.drop_append_of_le_length (by rw [List.length_take]; omega)]
    have ew : ns.drop a.toNat = (ns.take b.toNat).drop a.toNat ++ m :: ns.drop (b.toNat + 1) := by
      rw [← ed]
      conv => lhs; rw [← List.take_append_drop b.toNat ns]
      rw [List.drop_append_of_le_length (by rw [List.length_take]; omega)]
    rw [ew, es, ed]
    refine G_part hq ?_
    rw [← ew]
    rcases hx with hx | hx
    · exact .inl fun x h => hx x (List.mem_of_mem_drop h)
    · exact .inr fun x h => hx x (List.mem_of_mem_drop h)
theorem G_cuts {q : Int} (hq : 0 ≤ q) {ns : List Int} : ∀ (cs : List Int) (a : Int), 0 ≤ a → (a :: cs).Pairwise (· < ·) → (∀ b ∈ cs, Okc ns b) →
    G q (swL (ns.drop a.toNat)) = (((a :: cs).zip cs).map fun p => G q (swL (segI ns p))).sum + G q (swL (ns.drop ((a :: cs).getLast (by simp)).toNat))
  | [], a, _, _, _ => by simp
  | b :: cs, a, h0, hp, ok => by
    have hp' := List.pairwise_cons.mp hp
    have hab := hp'.1 b (by simp)
    have ih := G_cuts hq cs b (by omega) hp'.2 fun c hc => ok c (by simp [hc])
    rw [G_seg hq h0 hab (ok b (by simp)), ih]
    simp only [List.zip_cons_cons, List.map_cons, List.sum_cons, List.getLast_cons_cons]
    omega
theorem idx_lt {ns : List Int} {m : Int} (h : m ∈ ns) : ns.idxOf m < ns.length := List.idxOf_lt_length_iff.mpr h
theorem idx_at : ∀ {ns : List Int} {m : Int}, m ∈ ns → ns[ns.idxOf m]? = some m
  | x :: r, m, h => by
    by_cases e : x = m
    · subst e; simp [List.idxOf_cons]
    · have hr : m ∈ r := by
        rcases List.mem_cons.mp h with z | z
        · exact absurd z.symm e
        · exact z
      have : (x :: r).idxOf m = r.idxOf m + 1 := by rw [List.idxOf_cons, beq_eq_false_iff_ne.mpr e]; rfl
      rw [this, List.getElem?_cons_succ]
      exact idx_at hr
theorem idx_first : ∀ {ns : List Int} {h : Nat} {m : Int}, ns[h]? = some m → (∀ j, j < h → ∀ y, ns[j]? = some y → y ≠ m) → ns.idxOf m = h
  | x :: r, 0, m, e, _ => by simp at e; subst e; simp [List.idxOf_cons]
  | x :: r, h + 1, m, e, hl => by
    have hx : x ≠ m := hl 0 (by omega) x rfl
    have : (x :: r).idxOf m = r.idxOf m + 1 := by rw [List.idxOf_cons, beq_eq_false_iff_ne.mpr hx]; rfl
    rw [this, idx_first (ns := r) (h := h) (by simpa using e) fun j hj y hy => hl (j + 1) (by omega) y (by simpa using hy)]
theorem cuts_mem {ns : List Int} {b : Int} : b ∈ cutsL ns ↔ b = 0 ∨ b = ((ns.idxOf (hiV ns) : Nat) : Int) ∨ b = ((ns.idxOf (loV ns) : Nat) : Int) ∨ b = (ns.length : Int) - 1 := by
  unfold cutsL
  rw [mem_asc]
  simp
theorem cuts_bd {ns : List Int} (h : 1 ≤ ns.length) {b : Int} (hb : b ∈ cutsL ns) : 0 ≤ b ∧ b < ns.length := by
  have h1 := idx_lt (hiV_is h).1
  have h2 := idx_lt (loV_is h).1
  rcases cuts_mem.mp hb with rfl | rfl | rfl | rfl <;> omega
theorem cuts_ok {ns : List Int} (h : 1 ≤ ns.length) {b : Int} (hb : b ∈ cutsL ns) (b0 : 0 < b) : Okc ns b := by
  have bd := cuts_bd h hb
  refine ⟨bd.1, bd.2, ?_⟩
  rcases cuts_mem.mp hb with rfl | rfl | rfl | rfl
  · omega
  · refine .inr ⟨hiV ns, ?_, .inl (hiV_is h).2⟩
    rw [Int.toNat_natCast]; exact idx_at (hiV_is h).1
  · refine .inr ⟨loV ns, ?_, .inr (loV_is h).2⟩
    rw [Int.toNat_natCast]; exact idx_at (loV_is h).1
  · exact .inl rfl
theorem cuts_lt (ns : List Int) : (cutsL ns).Pairwise (· < ·) := asc_lt _
theorem cuts_head {ns : List Int} (h : 1 ≤ ns.length) : ∃ r, cutsL ns = 0 :: r := by
  have h0 : (0 : Int) ∈ cutsL ns := cuts_mem.mpr (.inl rfl)
  have hp := cuts_lt ns
  have hb := fun b (hb : b ∈ cutsL ns) => (cuts_bd h hb).1
  cases e : cutsL ns with
  | nil => rw [e] at h0; simp at h0
  | cons a r =>
    rw [e] at h0 hp hb
    have ha := hb a (by simp)
    rcases List.mem_cons.mp h0 with z | z
    · exact ⟨r, by rw [← z]⟩
    · have := (List.pairwise_cons.mp hp).1 0 z; omega
theorem last_ge : ∀ {l : List Int} (hne : l ≠ []), l.Pairwise (· < ·) → ∀ x ∈ l, x ≤ l.getLast hne
  | [a], _, _, x, hx => by simp at hx; simp [hx]
  | a :: b :: r, _, hp, x, hx => by
    have hp' := List.pairwise_cons.mp hp
    have ih := last_ge (l := b :: r) (by simp) hp'.2
    rw [List.getLast_cons_cons]
    rcases List.mem_cons.mp hx with rfl | hx
    · have := hp'.1 b (by simp); have := ih b (by simp); omega
    · exact ih x hx
theorem G_flat (q : Int) {α : Type} (f : α → List Int) : ∀ l : List α, G q (l.flatMap f) = (l.map fun p => G q (f p)).sum
  | [] => rfl
  | x :: r => by simp [G_app, G_flat q f r]
theorem swings_parts {ns : List Int} (h : 1 ≤ ns.length) : (srt ((partsL ns).flatMap swL)).reverse = swL ns := by
  refine swL_dsc (fun x hx => ?_) fun q hq => ?_
  · obtain ⟨p, _, hp⟩ := List.mem_flatMap.mp hx
    exact (swings_spec p).pos x hp
  · obtain ⟨r, e⟩ := cuts_head h
    have hlt := cuts_lt ns
    unfold partsL
    rw [e] at hlt ⊢
    cases r with
    | nil => simp
    | cons b r =>
      rw [if_neg (by simp)]
      have ok : ∀ c ∈ b :: r, Okc ns c := fun c hc => cuts_ok h (by rw [e]; exact List.mem_cons_of_mem _ hc) ((List.pairwise_cons.mp hlt).1 c hc)
      have key := G_cuts hq (b :: r) 0 (Int.le_refl _) hlt ok
      have hl : (0 :: b :: r).getLast (by simp) = (ns.length : Int) - 1 := by
        have h1 : ∀ x ∈ (0 :: b :: r), x ≤ (ns.length : Int) - 1 := fun x hx => by have := cuts_bd h (by rw [e]; exact hx); omega
        have h2 := h1 _ (List.getLast_mem (l := 0 :: b :: r) (by simp))
        have h3 := last_ge (l := 0 :: b :: r) (by simp) hlt ((ns.length : Int) - 1) (by rw [← e]; exact cuts_mem.mpr (.inr (.inr (.inr rfl))))
        omega
      rw [hl, G_last h, Int.add_zero] at key
      have e0 : ns.drop (0 : Int).toNat = ns := by simp
      rw [e0] at key
      rw [key, List.nil_append, List.flatMap_map, G_flat]
      rfl
/-- a first highest place, from the left -/
structure Hi (sgn : Int) (ns : List Int) (k h : Nat) : Prop where
  lt : h < ns.length
  le : ∀ j x y, j < max 1 k → ns[j]? = some x → ns[h]? = some y → sgn * x ≤ sgn * y
  first : ∀ j x y, j < h → ns[j]? = some x → ns[h]? = some y → sgn * x < sgn * y
theorem Hi.start {sgn : Int} {ns : List Int} (h : 1 ≤ ns.length) : Hi sgn ns 0 0 := by
  refine ⟨h, fun j x y hj hx hy => ?_, fun j _ _ hj => absurd hj (by omega)⟩
  have : j = 0 := by omega
  subst this
  rw [hx] at hy; cases hy; omega
theorem Hi.step {sgn : Int} {ns : List Int} {k h : Nat} {x y : Int} (H : Hi sgn ns k h) (hx : ns[k]? = some x) (hy : ns[h]? = some y) : Hi sgn ns (k + 1) (if sgn * y < sgn * x then k else h) := by
  have hk : k < ns.length := (List.getElem?_eq_some_iff.mp hx).1
  split
  · rename_i hlt
    refine ⟨hk, fun j a b hj ha hb => ?_, fun j a b hj ha hb => ?_⟩
    · rw [hx] at hb; cases hb
      by_cases e : j = k
      · subst e; rw [hx] at ha; cases ha; omega
      · have := H.le j a y (by omega) ha hy; omega
    · rw [hx] at hb; cases hb
      have := H.le j a y (by omega) ha hy; omega
  · rename_i hlt
    refine ⟨H.lt, fun j a b hj ha hb => ?_, H.first⟩
    by_cases e : j = k
    · subst e; rw [hx] at ha; cases ha; rw [hy] at hb; cases hb; omega
    · exact H.le j a b (by omega) ha hb
theorem Hi.hi {ns : List Int} {h : Nat} (H : Hi 1 ns ns.length h) : ns.idxOf (hiV ns) = h := by
  obtain ⟨y, hy⟩ : ∃ y, ns[h]? = some y := ⟨_, List.getElem?_eq_getElem H.lt⟩
  have e : y = hiV ns := hiV_of (List.mem_of_getElem? hy) fun x hx => by
    obtain ⟨j, hj, hjx⟩ := List.getElem_of_mem hx
    have := H.le j x y (by omega) (by rw [List.getElem?_eq_getElem hj, hjx]) hy
    omega
  rw [← e]
  refine idx_first hy fun j hj x hx hxy => ?_
  have := H.first j x y hj hx hy
  omega
theorem Hi.lo {ns : List Int} {h : Nat} (H : Hi (-1) ns ns.length h) : ns.idxOf (loV ns) = h := by
  obtain ⟨y, hy⟩ : ∃ y, ns[h]? = some y := ⟨_, List.getElem?_eq_getElem H.lt⟩
  have e : y = loV ns := loV_of (List.mem_of_getElem? hy) fun x hx => by
    obtain ⟨j, hj, hjx⟩ := List.getElem_of_mem hx
    have := H.le j x y (by omega) (by rw [List.getElem?_eq_getElem hj, hjx]) hy
    omega
  rw [← e]
  refine idx_first hy fun j hj x hx hxy => ?_
  have := H.first j x y hj hx hy
  omega
theorem parts_ok {ns : List Int} (tk : trkOk ns) : ∀ p ∈ partsL ns, trkOk p := by
  obtain ⟨h1, h2, h3⟩ := tk
  intro p hp
  unfold partsL at hp
  rcases List.mem_append.mp hp with hp | hp
  · split at hp
    · simp only [List.mem_singleton] at hp
      subst hp; exact ⟨h1, h2, h3⟩
    · simp at hp
  · obtain ⟨⟨a, b⟩, hz, rfl⟩ := List.mem_map.mp hp
    obtain ⟨i, hi⟩ := List.getElem?_of_mem hz
    rw [List.getElem?_zip_eq_some] at hi
    obtain ⟨i1, i2⟩ := hi
    simp only at i1 i2
    rw [List.getElem?_drop] at i2
    obtain ⟨l1, e1⟩ := List.getElem?_eq_some_iff.mp i1
    obtain ⟨l2, e2⟩ := List.getElem?_eq_some_iff.mp i2
    have hlt : a < b := by
      have := List.pairwise_iff_getElem.mp (cuts_lt ns) i (1 + i) l1 l2 (by omega)
      rw [e1, e2] at this; exact this
    have ba := cuts_bd h1 (List.mem_of_getElem? i1)
    have bb := cuts_bd h1 (List.mem_of_getElem? i2)
    refine ⟨?_, ?_, fun x hx => h3 x (List.mem_of_mem_take (List.mem_of_mem_drop hx))⟩
    · unfold segI
      simp only [List.length_drop, List.length_take]
      omega
    · unfold segI
      simp only [List.length_drop, List.length_take]
      omega
end K

namespace K
open PySem PySem.Spec PyProof.Rows L2 DL
def topS (i : Nat) : Stmt := PySem.Challenge.pw_climbsums_k09_whole_parted_at_highest_an.main.body.getD i (.Pass ⟨0, 0, 0, 0⟩)
local macro_rules | `(tactic| walk_at "rd") => `(tactic| simp only [dForApp, dListG, datsOf, gThen, gPl, gIf, gFor, gForGo, gYield, g0, nOwn, dSeq, dNext, dNever, dDrop, dSet, dRet, dRetV, dIf, dFor, dBreak, dCont, dApp, dPop, dSetIx, setAt, dPar, setAll, dUnp, dUnpL, fMaxT, fMinT, fSS, fInT, fNotInT, dEnT, dVar, dVarS, dC, dBin, dUn, dSl, dNoPart, dPart, fSl, dNil, dCons, dConsN, toN, allD, dTup, dLst, dCB, f1N, f2N, dTest, dNotT, dAndT, dOrT, dAnd, dOr, dNot, dIfE, dChain, dCall, allN, dPeek, imm, dIl, lkL, dIt, dR1, dR2, dR3, dEn, dZi, dLc, dYes, gdName, gdNil, gdCons, gdTup, isOwnL, noTmp, noTmps, slOf, asI, asB, asL, asT, asSq, asD, fAdd, fI2, fI2', fMul, fNeg, fEq, fNe, fIsN', fNotN', DL.isNon, fIsB, fNotB, fIx, fRev, fLen, fSum, fAll, fAny, fSorted, fMax2, fMin2, fMaxL, fMinL, fAbs, fTupOf, fListOf, fIsi, dIdx, dCnt, dDNew, dDIx, dDGet, dDSet, dSortedD, dListD, fDict, dNeD, asOD, isOwnD, dBagIx, dBagSet, dIsiT, startD, bagEnv, wipeD,
  List.map_cons, List.map_nil, List.length_cons, List.length_nil, List.getElem?_cons_zero, List.getElem?_cons_succ, List.getElem?_nil, List.set_cons_zero, List.set_cons_succ, List.replicate_succ, List.replicate_zero, List.cons_append, List.nil_append, List.append_nil, Nat.zero_add, Nat.reduceAdd, Nat.reduceSub, Nat.sub_self, Nat.sub_zero, Option.map_some, Option.map_none, Bool.false_eq_true, if_true, if_false, ite_true, ite_false, reduceIte, and_true, true_and, List.getElem?_set, Bool.not_true, Bool.not_false, Bool.not_eq_true', atI0, atI1, atI2, atI3, atI_m1, Nat.reduceLeDiff, Int.reduceToNat, Int.reduceNeg, List.getLast?_append, List.getLast?_singleton, List.getLast?_concat, Option.some_or, Option.or_some, pop_at, List.dropLast_concat])

structure Glb (mg : Str → Option Value) : Prop where
  MOST_HEIGHT : ∃ t, mg "MOST_HEIGHT" = some (.int (1000000) t)
  MOST_HEIGHTS : ∃ t, mg "MOST_HEIGHTS" = some (.int (60) t)
  all : mg "all" = none
  bool : mg "bool" = none
  enumerate : mg "enumerate" = none
  int : mg "int" = none
  isinstance : mg "isinstance" = none
  len : mg "len" = none
  list : mg "list" = none
  max : mg "max" = none
  min : mg "min" = none
  range : mg "range" = none
  set : mg "set" = none
  sorted : mg "sorted" = none
  str : mg "str" = none
  tuple : mg "tuple" = none
  zip : mg "zip" = none
section
variable {P : Program} {w : World} {K : PySem.W.Frag} {mg : Str → Option Value} {base : Heap}
/-! in_range -/
def ndict (d : PyData) : Prop := match d with | .dict _ => False | _ => True
def inRange (d : PyData) (lo hi : Int) : Bool := match d with
  | .int i => decide (lo ≤ i) && decide (i ≤ hi)
  | _ => false
def P_in_range : List R → Prop
  | [.dat d, .dat (.int _), .dat (.int _)] => ndict d
  | _ => False
def F_in_range : List R → R
  | [.dat d, .dat (.int lo), .dat (.int hi)] => vB (inRange d lo hi)
  | _ => .bag
def sp_in_range : SpD := pureSp P_in_range F_in_range
theorem mono_in_range : MonoSp sp_in_range := mono_pure
theorem len_in_range (rs : List R) (n : Nat) (Q : R → Nat → Prop) (h : sp_in_range rs n Q) : rs.length = 3 := by
  have h1 := h.1; unfold P_in_range at h1; split at h1 <;> first | rfl | exact h1.elim
abbrev s_in_range : Stmt := topS 6
abbrev N_in_range : List Str := ["value", "low", "high"]
theorem sc_in_range : FnScope N_in_range ["value", "low", "high"] (defScope s_in_range) := ⟨rfl, rfl, rfl, by decide +kernel, rfl, by decide +kernel, by decide +kernel⟩
theorem cal_in_range {f : Addr} {fd : FuncData} (F : Fun K "in_range" "in_range" s_in_range f fd) (hm : mg "in_range" = some (.ref f)) (Z : Glb mg)  : Cal P w K mg base "in_range" ["value", "low", "high"] 1 sp_in_range := by
  refine cal_mk F hm (F.binds fun _ _ _ _ _ _ us hl => match us, hl with | [_, _, _], _ => rfl) (fn_d F sc_in_range len_in_range (fun cdv A outer s0 H E hr =>
    fss_one (fs_ret (fe_and (fe_isi Z.isinstance (fa_cons (fe_var 0) (fa_cons (fe_ty (T := "int") Z.int (by decide +kernel)) fa_nil))) (fe_and (fe_not (fe_isi Z.isinstance (fa_cons (fe_var 0) (fa_cons (fe_ty (T := "bool") Z.bool (by decide +kernel)) fa_nil)))) (fe_one (fe_chain op_le op_le (fe_var 1) (fe_var 0) (fe_var 2))))))) fun rs n Q h => ?_)
  obtain ⟨hP, hQ⟩ := h
  unfold P_in_range at hP; split at hP
  all_goals try exact False.elim hP
  simp only [F_in_range] at hQ
  unfold N_in_range
  rename_i d lo hi
  cases d with
  | int i =>
    walk_at "rd"
    simp only [inRange] at hQ
    refine ⟨by decide, ?_⟩
    rw [if_pos (by rfl)]
    refine ⟨by decide, ?_⟩
    rw [if_pos (by rfl)]
    by_cases h1 : lo ≤ i
    · rw [if_pos (by simpa using h1)]; simpa [h1] using hQ
    · rw [if_neg (by simpa using h1)]; simpa [h1] using hQ
  | bool b =>
    walk_at "rd"
    refine ⟨by decide, ?_⟩
    rw [if_pos (by rfl)]
    refine ⟨by decide, ?_⟩
    rw [if_neg (by intro z; cases z)]
    exact hQ
  | dict _ => exact hP.elim
  | none => walk_at "rd"; exact ⟨rfl, hQ⟩
  | str _ => walk_at "rd"; exact ⟨rfl, hQ⟩
  | list _ => walk_at "rd"; exact ⟨rfl, hQ⟩
  | tuple _ => walk_at "rd"; exact ⟨rfl, hQ⟩

/-! is_height -/
def P_is_height : List R → Prop
  | [.dat d] => ndict d
  | _ => False
def F_is_height : List R → R
  | [.dat d] => vB (inRange d (-1000000) 1000000)
  | _ => .bag
def sp_is_height : SpD := pureSp P_is_height F_is_height
theorem mono_is_height : MonoSp sp_is_height := mono_pure
theorem len_is_height (rs : List R) (n : Nat) (Q : R → Nat → Prop) (h : sp_is_height rs n Q) : rs.length = 1 := by
  have h1 := h.1; unfold P_is_height at h1; split at h1 <;> first | rfl | exact h1.elim
abbrev s_is_height : Stmt := topS 7
abbrev N_is_height : List Str := ["value"]
theorem sc_is_height : FnScope N_is_height ["value"] (defScope s_is_height) := ⟨rfl, rfl, rfl, by decide +kernel, rfl, by decide +kernel, by decide +kernel⟩
theorem cal_is_height {f : Addr} {fd : FuncData} (F : Fun K "is_height" "is_height" s_is_height f fd) (hm : mg "is_height" = some (.ref f)) (Z : Glb mg) (C_in_range : Cal P w K mg base "in_range" ["value", "low", "high"] 1 sp_in_range) : Cal P w K mg base "is_height" ["value"] 2 sp_is_height := by
  refine cal_mk F hm (F.binds fun _ _ _ _ _ _ us hl => match us, hl with | [_], _ => rfl) (fn_d F sc_is_height len_is_height (fun cdv A outer s0 H E hr =>
    fss_one (fs_ret (fe_calls C_in_range mono_in_range (hr.mono (by decide)) (fa_consN (fe_varS 0) (fa_consN (fe_neg (fe_gI Z.MOST_HEIGHT)) (fa_consN (fe_gI Z.MOST_HEIGHT) fa_nil)))))) fun rs n Q h => ?_)
  obtain ⟨hP, hQ⟩ := h
  unfold P_is_height at hP; split at hP
  all_goals try exact False.elim hP
  simp only [F_is_height] at hQ
  unfold N_is_height
  walk_at "rd"
  simp only [pureSp, sp_in_range, P_in_range, F_in_range]
  exact ⟨hP, hQ⟩

/-! is_track -/
def isTrack (d : PyData) : Bool := match d with
  | .tuple ds => decide (1 ≤ ds.length) && decide (ds.length ≤ 60) && ds.all fun e => inRange e (-1000000) 1000000
  | _ => false
def ndTrack (d : PyData) : Prop := match d with
  | .dict _ => False
  | .tuple ds => ∀ e ∈ ds, ndict e
  | _ => True
def P_is_track : List R → Prop
  | [.dat d] => ndTrack d
  | _ => False
def F_is_track : List R → R
  | [.dat d] => vB (isTrack d)
  | _ => .bag
def sp_is_track : SpD := pureSp P_is_track F_is_track
theorem mono_is_track : MonoSp sp_is_track := mono_pure
theorem len_is_track (rs : List R) (n : Nat) (Q : R → Nat → Prop) (h : sp_is_track rs n Q) : rs.length = 1 := by
  have h1 := h.1; unfold P_is_track at h1; split at h1 <;> first | rfl | exact h1.elim
abbrev s_is_track : Stmt := topS 8
abbrev N_is_track : List Str := ["value", "height"]
theorem sc_is_track : FnScope N_is_track ["value"] (defScope s_is_track) := ⟨rfl, rfl, rfl, by decide +kernel, rfl, by decide +kernel, by decide +kernel⟩
theorem cal_is_track {f : Addr} {fd : FuncData} (F : Fun K "is_track" "is_track" s_is_track f fd) (hm : mg "is_track" = some (.ref f)) (Z : Glb mg) (C_is_height : Cal P w K mg base "is_height" ["value"] 2 sp_is_height) : Cal P w K mg base "is_track" ["value"] 3 sp_is_track := by
  refine cal_mk F hm (F.binds fun _ _ _ _ _ _ us hl => match us, hl with | [_], _ => rfl) (fn_d F sc_is_track len_is_track (fun cdv A outer s0 H E hr =>
    fss_cons (fs_if (FW.ft (fw_or (ft_not (ft_val (fe_isi Z.isinstance (fa_cons (fe_var 0) (fa_cons (fe_ty (T := "tuple") Z.tuple (by decide +kernel)) fa_nil))))) (fw_or1 (ft_not (ft_chain op_le op_le fe_int (fe_len Z.len (fa_cons (fe_var 0) fa_nil)) (fe_gI Z.MOST_HEIGHTS)))))) (fss_one (fs_ret fe_bl))
    (fss_nil))
    (fss_one (fs_ret (fe_all rfl Z.all (fa_cons (fe_lc (own := [("height", 1)]) (vs := [1]) rfl sc_is_track.nd (fi_tup (fe_var 0)) (blkOk_by (N := N_is_track) (sc := defScope s_is_track) (by decide +kernel)) rfl (by decide) (fun _ _ _ _ _ => (fg_name 1 sc_is_track.nd)) (fun _ _ _ _ _ => fts_nil) (fun _ _ _ _ _ => (fe_calls C_is_height mono_is_height (hr.mono (by decide)) (fa_consN (fe_varS 1) fa_nil)))) fa_nil))))) fun rs n Q h => ?_)
  obtain ⟨hP, hQ⟩ := h
  unfold P_is_track at hP; split at hP
  all_goals try exact False.elim hP
  simp only [F_is_track] at hQ
  unfold N_is_track
  rename_i d
  cases d with
  | tuple ds =>
    walk_at "rd"
    simp only [isTrack] at hQ
    refine ⟨by decide, ?_⟩
    rw [if_neg (by intro z; cases z)]
    by_cases h1 : (1 : Int) ≤ ds.length
    · rw [if_pos (by simpa using h1)]
      by_cases h2 : (ds.length : Int) ≤ 60
      · rw [if_neg (by simpa using h2)]
        refine ⟨by omega, lcGo_map (fun d => .bool (inRange d (-1000000) 1000000)) (fun d hd acc kk h => ?_) ⟨ds.map fun d => inRange d (-1000000) 1000000, by rw [List.map_map]; rfl, ?_⟩⟩
        · unfold lcTurn
          walk_at "rd"
          simp only [pureSp, sp_is_height, P_is_height, F_is_height]
          exact ⟨hP d hd, h⟩
        · have e1 : decide (1 ≤ ds.length) = true := decide_eq_true (by omega)
          have e2 : decide (ds.length ≤ 60) = true := decide_eq_true (by omega)
          rw [e1, e2] at hQ
          simpa [List.all_map, Function.comp_def] using hQ
      · rw [if_pos (by simpa using h2)]
        have e2 : decide (ds.length ≤ 60) = false := decide_eq_false (by omega)
        rw [e2] at hQ
        simpa using hQ
    · rw [if_neg (by simpa using h1)]
      have e1 : decide (1 ≤ ds.length) = false := decide_eq_false (by omega)
      rw [e1] at hQ
      simpa using hQ
  | dict _ => exact hP.elim
  | none => walk_at "rd"; exact ⟨rfl, hQ⟩
  | str _ => walk_at "rd"; exact ⟨rfl, hQ⟩
  | list _ => walk_at "rd"; exact ⟨rfl, hQ⟩
  | bool _ => walk_at "rd"; exact ⟨rfl, hQ⟩
  | int _ => walk_at "rd"; exact ⟨rfl, hQ⟩

/-! check_track -/
theorem isTrack_ints {ns : List Int} (h : trkOk ns) : ndTrack (.tuple (ns.map .int)) ∧ isTrack (.tuple (ns.map .int)) = true := by
  obtain ⟨h1, h2, h3⟩ := h
  refine ⟨fun e he => ?_, ?_⟩
  · obtain ⟨x, _, rfl⟩ := List.mem_map.mp he; trivial
  · simp only [isTrack, List.length_map, Bool.and_eq_true, decide_eq_true_eq, List.all_eq_true]
    refine ⟨⟨h1, h2⟩, fun e he => ?_⟩
    obtain ⟨x, hx, rfl⟩ := List.mem_map.mp he
    simp only [inRange, Bool.and_eq_true, decide_eq_true_eq]
    exact h3 x hx
def P_check_track : List R → Prop
  | [.dat d] => ndTrack d ∧ isTrack d = true
  | _ => False
def F_check_track : List R → R
  | [.dat _] => .dat .none
  | _ => .bag
def sp_check_track : SpD := pureSp P_check_track F_check_track
theorem mono_check_track : MonoSp sp_check_track := mono_pure
theorem len_check_track (rs : List R) (n : Nat) (Q : R → Nat → Prop) (h : sp_check_track rs n Q) : rs.length = 1 := by
  have h1 := h.1; unfold P_check_track at h1; split at h1 <;> first | rfl | exact h1.elim
abbrev s_check_track : Stmt := topS 9
abbrev N_check_track : List Str := ["value"]
theorem sc_check_track : FnScope N_check_track ["value"] (defScope s_check_track) := ⟨rfl, rfl, rfl, by decide +kernel, rfl, by decide +kernel, by decide +kernel⟩
theorem cal_check_track {f : Addr} {fd : FuncData} (F : Fun K "check_track" "check_track" s_check_track f fd) (hm : mg "check_track" = some (.ref f)) (Z : Glb mg) (C_is_track : Cal P w K mg base "is_track" ["value"] 3 sp_is_track) : Cal P w K mg base "check_track" ["value"] 4 sp_check_track := by
  refine cal_mk F hm (F.binds fun _ _ _ _ _ _ us hl => match us, hl with | [_], _ => rfl) (fn_d F sc_check_track len_check_track (fun cdv A outer s0 H E hr =>
    fss_one (fs_if (ft_not (ft_val (fe_calls C_is_track mono_is_track (hr.mono (by decide)) (fa_consN (fe_varS 0) fa_nil)))) (fss_one fs_never)
    (fss_nil))) fun rs n Q h => ?_)
  obtain ⟨hP, hQ⟩ := h
  unfold P_check_track at hP; split at hP
  all_goals try exact False.elim hP
  simp only [F_check_track] at hQ
  unfold N_check_track
  try walk_at "rd"
  simp only [pureSp, sp_is_track, P_is_track, F_is_track]
  refine ⟨hP.1, ?_⟩
  try walk_at "rd"
  rw [hP.2, if_neg (by decide)]
  exact hQ

/-! runs_of -/
def pairN (p : Nat × Nat) : PyData := .tuple [.int p.1, .int p.2]
def P_runs_of : List R → Prop
  | [.dat (.tuple ds)] => isI ds ∧ ds.length ≤ 1000
  | _ => False
def F_runs_of : List R → R
  | [.dat (.tuple ds)] => .own (.lst ((runsIx (unI ds)).map pairN))
  | _ => .bag
def sp_runs_of : SpD := pureSp P_runs_of F_runs_of
theorem mono_runs_of : MonoSp sp_runs_of := mono_pure
theorem len_runs_of (rs : List R) (n : Nat) (Q : R → Nat → Prop) (h : sp_runs_of rs n Q) : rs.length = 1 := by
  have h1 := h.1; unfold P_runs_of at h1; split at h1 <;> first | rfl | exact h1.elim
abbrev s_runs_of : Stmt := topS 10
abbrev N_runs_of : List Str := ["track", "found", "start", "place"]
theorem sc_runs_of : FnScope N_runs_of ["track"] (defScope s_runs_of) := ⟨rfl, rfl, rfl, by decide +kernel, rfl, by decide +kernel, by decide +kernel⟩
theorem cal_runs_of {f : Addr} {fd : FuncData} (F : Fun K "runs_of" "runs_of" s_runs_of f fd) (hm : mg "runs_of" = some (.ref f)) (Z : Glb mg)  : Cal P w K mg base "runs_of" ["track"] 1 sp_runs_of := by
  refine cal_mk F hm (F.binds fun _ _ _ _ _ _ us hl => match us, hl with | [_], _ => rfl) (fn_d F sc_runs_of len_runs_of (fun cdv A outer s0 H E hr =>
    fss_cons (fs_par2 1 2 rfl sc_runs_of.nd (fa_cons (fe_lst fa_nil) (fa_cons fe_int fa_nil)))
    (fss_cons (fs_for PassesOwn.never rfl (fi_range2 Z.range (fa_cons fe_int (fa_cons (fe_add (fe_len Z.len (fa_cons (fe_var 0) fa_nil)) fe_int) fa_nil))) (fg_name 3 sc_runs_of.nd)
    (fss_one (fs_if (FW.ft (fw_or (ft_eq hr.units (fe_var 3) (fe_len Z.len (fa_cons (fe_var 0) fa_nil))) (fw_or1 (ft_lt (fe_ix (fe_var 0) (fe_var 3)) (fe_ix (fe_var 0) (fe_sub (fe_var 3) fe_int)))))) (fss_cons (fs_if (ft_lt (fe_ix (fe_var 0) (fe_var 2)) (fe_ix (fe_var 0) (fe_sub (fe_var 3) fe_int))) (fss_one (fs_app 1 (fe_tup (fa_consN (fe_varS 2) (fa_consN (fe_sub (fe_var 3) fe_int) fa_nil)))))
    (fss_nil))
    (fss_one (fs_set 2 sc_runs_of.nd (fe_varS 3))))
    (fss_nil))))
    (fss_one (fs_retV 1)))) fun rs n Q h => ?_)
  obtain ⟨hP, hQ⟩ := h
  unfold P_runs_of at hP; split at hP
  all_goals try exact False.elim hP
  simp only [F_runs_of] at hQ
  unfold N_runs_of
  rename_i ds
  obtain ⟨⟨ns, rfl⟩, h2⟩ := hP
  rw [unI_map] at hQ
  rw [List.length_map] at h2
  walk_at "rd"
  rw [List.length_map]
  refine ⟨⟨by omega, by omega⟩, ⟨by omega, by omega⟩, ?_⟩
  refine forGo_inv (I := fun rest ρ n' => n' = n ∧ ∃ (i : Nat) (L : List (Nat × Nat)) (st : Nat) (z : Sl), rest = (rng 1 ((ns.length : Int) + 1)).drop i ∧
      ρ = [.dat (.tuple (ns.map .int)), .own (.lst (L.map pairN)), .dat (.int st), z] ∧ i ≤ ns.length ∧ L.length ≤ i ∧
      (i < ns.length → st ≤ i ∧ L ++ runsP st (ns.getD st 0) i (ns.getD i 0) (ns.drop (i + 1)) = runsIx ns) ∧ (ns.length ≤ i → L = runsIx ns))
    (fun ρ n' hI => ?_) (fun d rr ρ n' kk hI hk => ?_) ⟨rfl, 0, [], 0, .un, rfl, rfl, by omega, by simp, fun h => ⟨Nat.le_refl _, ?_⟩, fun h => ?_⟩
  · obtain ⟨rfl, i, L, st, z, e, rfl, hi, hl, h1, h3⟩ := hI
    have hi2 := rng_end e.symm
    walk_at "rd"
    rw [h3 (by omega)]
    exact hQ
  · obtain ⟨rfl, i, L, st, z, e, rfl, hi, hl, h1, h3⟩ := hI
    obtain ⟨rfl, rfl, hlt⟩ := rng_drop e.symm
    have hlt : i < ns.length := by omega
    obtain ⟨hst, hL⟩ := h1 hlt
    have a1 : atI (ns.map PyData.int) (1 + (i : Int) - 1) = some (.int (ns.getD i 0)) := at_int i (by omega) hlt
    have a2 : atI (ns.map PyData.int) (st : Int) = some (.int (ns.getD st 0)) := at_int st rfl (by omega)
    have close : ∀ L' : List (Nat × Nat), L'.length ≤ i + 1 → (i + 1 < ns.length → L' ++ runsP (i + 1) (ns.getD (i + 1) 0) (i + 1) (ns.getD (i + 1) 0) (ns.drop (i + 1 + 1)) = runsIx ns) → (ns.length ≤ i + 1 → L' = runsIx ns) →
        kk [.dat (.tuple (ns.map .int)), .own (.lst (L'.map pairN)), .dat (.int (1 + (i : Int))), .dat (.int (1 + (i : Int)))] n' := by
      intro L' g1 g2 g3
      have e2 : 1 + (i : Int) = ((i + 1 : Nat) : Int) := by omega
      refine hk _ _ ⟨rfl, i + 1, L', i + 1, .dat (.int (1 + (i : Int))), rfl, by rw [e2], by omega, g1, fun h => ⟨Nat.le_refl _, g2 h⟩, g3⟩
    have tailIf : ∀ (D : EndsD), D.nx = kk → (runsP st (ns.getD st 0) i (ns.getD i 0) (ns.drop (i + 1)) = (if ns.getD st 0 < ns.getD i 0 then [(st, i)] else []) ++ (if i + 1 < ns.length then runsP (i + 1) (ns.getD (i + 1) 0) (i + 1) (ns.getD (i + 1) 0) (ns.drop (i + 1 + 1)) else [])) →
        (if ns.getD st 0 < ns.getD i 0 then (L.map pairN).length < 1000000 ∧ kk [.dat (.tuple (ns.map .int)), .own (.lst (L.map pairN ++ [.tuple [.int st, .int (1 + (i : Int) - 1)]])), .dat (.int (1 + (i : Int))), .dat (.int (1 + (i : Int)))] n'
          else kk [.dat (.tuple (ns.map .int)), .own (.lst (L.map pairN)), .dat (.int (1 + (i : Int))), .dat (.int (1 + (i : Int)))] n') := by
      intro D hD er
      rw [er] at hL
      split
      · rename_i hs
        rw [if_pos hs] at hL
        have e3 : 1 + (i : Int) - 1 = (i : Int) := by omega
        refine ⟨by rw [List.length_map]; omega, ?_⟩
        have := close (L ++ [(st, i)]) (by simp; omega) (fun h => by rw [if_pos h] at hL; rw [← hL]; simp) (fun h => by rw [if_neg (by omega)] at hL; rw [← hL]; simp)
        simp only [List.map_append, List.map_cons, List.map_nil, pairN] at this
        rw [e3]; exact this
      · rename_i hs
        rw [if_neg hs] at hL
        exact close L (by omega) (fun h => by rw [if_pos h] at hL; rw [← hL]; simp) (fun h => by rw [if_neg (by omega)] at hL; rw [← hL]; simp)
    walk_at "rd"
    rw [List.length_map]
    simp only [a1, a2, decide_eq_true_eq]
    by_cases hend : 1 + (i : Int) = ns.length
    · rw [if_pos hend]
      refine tailIf ⟨kk, fun _ _ => True, kk, kk⟩ rfl ?_
      rw [List.drop_of_length_le (by omega), if_neg (show ¬ i + 1 < ns.length by omega), List.append_nil]
      rfl
    · rw [if_neg hend]
      have hlt2 : i + 1 < ns.length := by omega
      have a3 : atI (ns.map PyData.int) (1 + (i : Int)) = some (.int (ns.getD (i + 1) 0)) := at_int (i + 1) (by omega) hlt2
      simp only [a3]
      have ed := drop_getD hlt2
      by_cases hx : ns.getD (i + 1) 0 < ns.getD i 0
      · rw [if_pos hx]
        refine tailIf ⟨kk, fun _ _ => True, kk, kk⟩ rfl ?_
        rw [ed, if_pos hlt2]
        conv => lhs; unfold runsP
        rw [if_pos hx]
        split <;> simp
      · rw [if_neg hx]
        rw [ed] at hL
        unfold runsP at hL
        rw [if_neg hx] at hL
        exact hk _ _ ⟨rfl, i + 1, L, st, _, rfl, rfl, by omega, by omega, fun h => ⟨by omega, hL⟩, fun h => by omega⟩
  · cases ns with
    | nil => simp at h
    | cons x r => rfl
  · cases ns with
    | nil => rfl
    | cons x r => simp at h

/-! swings_of -/
def P_swings_of : List R → Prop
  | [.dat (.tuple ds)] => isI ds ∧ ds.length ≤ 1000
  | _ => False
def F_swings_of : List R → R
  | [.dat (.tuple ds)] => .own (.lst ((swL (unI ds)).map .int))
  | _ => .bag
theorem eqOk_pairs (ps : List (Int × Int)) : EqOk (.list (ps.map pairD)) (.list []) := eqOk_pl (m := 2) (fun d hd => by
  obtain ⟨p, _, rfl⟩ := List.mem_map.mp hd
  intro e he
  simp only [List.mem_cons, List.not_mem_nil, or_false] at he
  rcases he with rfl | rfl <;> trivial) (fun d hd => by simp at hd)
theorem swings_comp {cs : List (Int × Int)} {a b c d e f g h : Sl} {n : Nat} {k : List PyData → Nat → Prop} (hk : k ((cs.map fun p => p.2 - p.1).map PyData.int) n) :
    dLcGo (gdTup (gdCons (gdName 5) (gdCons (gdName 6) gdNil)) 2) dYes (dBin fSub (dVar 6) (dVar 5)) [5, 6] (cs.map pairD) [] [a, b, c, d, e, f, g, h] n k := by
  refine lcGo_map (fun d => match d with | .tuple [.int x, .int y] => .int (y - x) | _ => .none) (fun dd hd acc kk h => ?_) ?_
  · obtain ⟨⟨x, y⟩, hx, rfl⟩ := List.mem_map.mp hd
    unfold lcTurn
    simp only [pairD]
    walk_at "rd"
    exact h
  · rw [List.map_map] at hk ⊢
    exact hk
theorem sw_w1 {D : EndsD} {low : Int} {stk : List (Int × Int)} {L : List Int} {x0 x3 x4 x6 z : Sl} {n : Nat} (hl : stk.length + L.length ≤ 1000)
    (hk : ∀ z, D.nx [x0, .own (.lst ((popL low stk L).2.map .int)), .own (.lst ((popL low stk L).1.reverse.map pairD)), x3, x4, .dat (.int low), x6, z] n) :
    dWhile (dAndT (dTest (dBin fNe (dVar 2) (dLst dNil))) (dTest (dBin fLe (dVar 5) (dBin fIx (dBin fIx (dVar 2) (dUn fNeg (dC (R.dat (PyData.int 1))))) (dC (R.dat (PyData.int 0)))))))
      (dSeq (dPop 2 7) (dApp 1 (dBin fSub (dBin fIx (dVar 7) (dC (R.dat (PyData.int 1)))) (dBin fIx (dVar 7) (dC (R.dat (PyData.int 0)))))))
      D [x0, .own (.lst (L.map .int)), .own (.lst (stk.reverse.map pairD)), x3, x4, .dat (.int low), x6, z] n := by
  refine while_inv (fun m ρ n2 => n2 = n ∧ ∃ (s : List (Int × Int)) (f : List Int) (z : Sl), m = s.length ∧
      ρ = [x0, .own (.lst (f.map .int)), .own (.lst (s.reverse.map pairD)), x3, x4, .dat (.int low), x6, z] ∧
      popL low s f = popL low stk L ∧ s.length + f.length ≤ 1000) _ ⟨rfl, stk, L, _, rfl, rfl, rfl, hl⟩ fun m ρ n2 k hI hk2 => ?_
  obtain ⟨rfl, s, f, z, rfl, rfl, hp, hsl⟩ := hI
  cases s with
  | nil =>
    have hz := hk z
    rw [← hp] at hz
    walk_at "rd"
    exact ⟨eqOk_pairs [], fun _ => hz, fun h => absurd rfl h⟩
  | cons p t =>
    obtain ⟨l, h⟩ := p
    have hz := hk z
    rw [← hp] at hz
    simp only [List.reverse_cons, List.map_append, List.map_cons, List.map_nil, pairD]
    walk_at "rd"
    have e := eqOk_pairs ((t.reverse ++ [(l, h)]))
    simp only [List.map_append, List.map_cons, List.map_nil, pairD] at e
    refine ⟨e, fun h => by simp at h, fun _ => ?_⟩
    have ep : popL low ((l, h) :: t) f = if low ≤ l then popL low t (f ++ [h - l]) else ((l, h) :: t, f) := rfl
    rw [ep] at hp hz
    by_cases hc : low ≤ l
    · rw [if_pos (by simpa using hc)]
      rw [if_pos hc] at hp
      simp only [List.length_cons] at hsl
      exact ⟨by rw [List.length_map]; omega, hk2 t.length _ _ (by simp) ⟨rfl, t, f ++ [h - l], _, rfl, by simp; rfl, hp, by simp; omega⟩⟩
    · rw [if_neg (by simpa using hc)]
      rw [if_neg hc] at hz
      simpa [pairD] using hz
theorem sw_w2 {D : EndsD} {low high : Int} {stk : List (Int × Int)} {L : List Int} {x0 x3 x4 z : Sl} {n : Nat} (hl : stk.length + L.length ≤ 1000)
    (hk : ∀ z, D.nx [x0, .own (.lst ((popH high low stk L).2.2.map .int)), .own (.lst ((popH high low stk L).2.1.reverse.map pairD)), x3, x4, .dat (.int (popH high low stk L).1), .dat (.int high), z] n) :
    dWhile (dAndT (dTest (dBin fNe (dVar 2) (dLst dNil))) (dTest (dBin fGe (dVar 6) (dBin fIx (dBin fIx (dVar 2) (dUn fNeg (dC (R.dat (PyData.int 1))))) (dC (R.dat (PyData.int 1)))))))
      (dSeq (dPop 2 7) (dSeq (dApp 1 (dBin fSub (dBin fIx (dVar 7) (dC (R.dat (PyData.int 1)))) (dVar 5))) (dSet 5 (dBin fIx (dVar 7) (dC (R.dat (PyData.int 0)))))))
      D [x0, .own (.lst (L.map .int)), .own (.lst (stk.reverse.map pairD)), x3, x4, .dat (.int low), .dat (.int high), z] n := by
  refine while_inv (fun m ρ n2 => n2 = n ∧ ∃ (s : List (Int × Int)) (f : List Int) (lo : Int) (z : Sl), m = s.length ∧
      ρ = [x0, .own (.lst (f.map .int)), .own (.lst (s.reverse.map pairD)), x3, x4, .dat (.int lo), .dat (.int high), z] ∧
      popH high lo s f = popH high low stk L ∧ s.length + f.length ≤ 1000) _ ⟨rfl, stk, L, low, _, rfl, rfl, rfl, hl⟩ fun m ρ n2 k hI hk2 => ?_
  obtain ⟨rfl, s, f, lo, z, rfl, rfl, hp, hsl⟩ := hI
  cases s with
  | nil =>
    have hz := hk z
    rw [← hp] at hz
    walk_at "rd"
    exact ⟨eqOk_pairs [], fun _ => hz, fun h => absurd rfl h⟩
  | cons p t =>
    obtain ⟨l, h⟩ := p
    have hz := hk z
    rw [← hp] at hz
    simp only [List.reverse_cons, List.map_append, List.map_cons, List.map_nil, pairD]
    walk_at "rd"
    have e := eqOk_pairs ((t.reverse ++ [(l, h)]))
    simp only [List.map_append, List.map_cons, List.map_nil, pairD] at e
    refine ⟨e, fun h => by simp at h, fun _ => ?_⟩
    have ep : popH high lo ((l, h) :: t) f = if h ≤ high then popH high l t (f ++ [h - lo]) else (lo, (l, h) :: t, f) := rfl
    rw [ep] at hp hz
    by_cases hc : h ≤ high
    · rw [if_pos (by simpa using hc)]
      rw [if_pos hc] at hp
      simp only [List.length_cons] at hsl
      exact ⟨by rw [List.length_map]; omega, hk2 t.length _ _ (by simp) ⟨rfl, t, f ++ [h - lo], l, _, rfl, by simp; rfl, hp, by simp; omega⟩⟩
    · rw [if_neg (by simpa using hc)]
      rw [if_neg hc] at hz
      simpa [pairD] using hz
def sp_swings_of : SpD := pureSp P_swings_of F_swings_of
theorem mono_swings_of : MonoSp sp_swings_of := mono_pure
theorem len_swings_of (rs : List R) (n : Nat) (Q : R → Nat → Prop) (h : sp_swings_of rs n Q) : rs.length = 1 := by
  have h1 := h.1; unfold P_swings_of at h1; split at h1 <;> first | rfl | exact h1.elim
abbrev s_swings_of : Stmt := topS 11
abbrev N_swings_of : List Str := ["track", "found", "open_runs", "start", "end", "low", "high", "before"]
theorem sc_swings_of : FnScope N_swings_of ["track"] (defScope s_swings_of) := ⟨rfl, rfl, rfl, by decide +kernel, rfl, by decide +kernel, by decide +kernel⟩
theorem cal_swings_of {f : Addr} {fd : FuncData} (F : Fun K "swings_of" "swings_of" s_swings_of f fd) (hm : mg "swings_of" = some (.ref f)) (Z : Glb mg) (C_runs_of : Cal P w K mg base "runs_of" ["track"] 1 sp_runs_of) : Cal P w K mg base "swings_of" ["track"] 2 sp_swings_of := by
  refine cal_mk F hm (F.binds fun _ _ _ _ _ _ us hl => match us, hl with | [_], _ => rfl) (fn_d F sc_swings_of len_swings_of (fun cdv A outer s0 H E hr =>
    fss_cons (fs_par2 1 2 rfl sc_swings_of.nd (fa_cons (fe_lst fa_nil) (fa_cons (fe_lst fa_nil) fa_nil)))
    (fss_cons (fs_for PassesOwn.never rfl (fi_list (fe_calls C_runs_of mono_runs_of (hr.mono (by decide)) (fa_consN (fe_varS 0) fa_nil))) (fg_tup (n := 2) rfl (fgs_cons (fg_name 3 sc_swings_of.nd) (fgs_cons (fg_name 4 sc_swings_of.nd) fgs_nil)))
    (fss_cons (fs_par2 5 6 rfl sc_swings_of.nd (fa_cons (fe_ix (fe_var 0) (fe_var 3)) (fa_cons (fe_ix (fe_var 0) (fe_var 4)) fa_nil)))
    (fss_cons (fs_while PassesOwn.never (FW.ft (fw_and (ft_ne hr.units (fe_var 2) (fe_lst fa_nil)) (fw_and1 (ft_le (fe_var 5) (fe_ix (fe_ix (fe_var 2) (fe_neg fe_int)) fe_int))))) (fss_cons (fs_pop 2 7 sc_swings_of.nd)
    (fss_one (fs_app 1 (fe_sub (fe_ix (fe_var 7) fe_int) (fe_ix (fe_var 7) fe_int))))))
    (fss_cons (fs_while PassesOwn.never (FW.ft (fw_and (ft_ne hr.units (fe_var 2) (fe_lst fa_nil)) (fw_and1 (ft_ge (fe_var 6) (fe_ix (fe_ix (fe_var 2) (fe_neg fe_int)) fe_int))))) (fss_cons (fs_pop 2 7 sc_swings_of.nd)
    (fss_cons (fs_app 1 (fe_sub (fe_ix (fe_var 7) fe_int) (fe_var 5)))
    (fss_one (fs_set 5 sc_swings_of.nd (fe_ix (fe_var 7) fe_int))))))
    (fss_one (fs_app 2 (fe_tup (fa_consN (fe_varS 5) (fa_consN (fe_varS 6) fa_nil)))))))))
    (fss_one (fs_ret (fe_rev (fe_sorted Z.sorted (fa_cons (fe_add (fe_var 1) (fe_lc (own := [("low", 5), ("high", 6)]) (vs := [5, 6]) rfl sc_swings_of.nd (fi_list (fe_var 2)) (blkOk_by (N := N_swings_of) (sc := defScope s_swings_of) (by decide +kernel)) rfl (by decide) (fun _ _ _ _ _ => (fg_tup (n := 2) rfl (fgs_cons (fg_name 5 sc_swings_of.nd) (fgs_cons (fg_name 6 sc_swings_of.nd) fgs_nil)))) (fun _ _ _ _ _ => fts_nil) (fun _ _ _ _ _ => (fe_sub (fe_var 6) (fe_var 5))))) fa_nil))))))) fun rs n Q h => ?_)
  obtain ⟨hP, hQ⟩ := h
  unfold P_swings_of at hP; split at hP
  all_goals try exact False.elim hP
  simp only [F_swings_of] at hQ
  unfold N_swings_of
  rename_i ds
  obtain ⟨⟨ns, rfl⟩, h2⟩ := hP
  rw [unI_map] at hQ
  rw [List.length_map] at h2
  walk_at "rd"
  simp only [pureSp, sp_runs_of, P_runs_of, F_runs_of]
  rw [List.length_map, unI_map]
  refine ⟨⟨isI_map _, h2⟩, ?_⟩
  have hv := runsIx_vals ns
  have hle : (runsIx ns).length ≤ 1000 := by have := runsIx_len ns; have := (swings_spec ns).half; omega
  refine forGo_inv (I := fun rest ρ n' => n' = n ∧ ∃ (xs : List (Nat × Nat)) (stk : List (Int × Int)) (L : List Int) (z1 z2 z3 z4 z5 : Sl), rest = xs.map pairN ∧
      ρ = [.dat (.tuple (ns.map .int)), .own (.lst (L.map .int)), .own (.lst (stk.reverse.map pairD)), z1, z2, z3, z4, z5] ∧ (xs.map (val2 ns)).foldl swS (stk, L) = swF (runsT ns) ∧
      (∀ q ∈ xs, q.1 < ns.length ∧ q.2 < ns.length) ∧ stk.length + L.length + xs.length ≤ 1000)
    (fun ρ n' hI => ?_) (fun d rr ρ n' kk hI hk => ?_) ⟨rfl, runsIx ns, [], [], .un, .un, .un, .un, .un, rfl, rfl, by rw [hv.1]; rfl, fun q hq => by have := apart_fst hv.2.1 hv.2.2 q hq; omega, by simpa using hle⟩
  · obtain ⟨rfl, xs, stk, L, z1, z2, z3, z4, z5, e, rfl, hf, hq, hl⟩ := hI
    cases xs with
    | cons _ _ => simp at e
    | nil =>
      walk_at "rd"
      refine ⟨by simp at hl ⊢; omega, swings_comp ?_⟩
      rw [← List.map_append]
      have e2 : L ++ stk.reverse.map (fun p => p.2 - p.1) = swR (runsT ns) := by
        simp only [List.map_nil, List.foldl_nil] at hf
        unfold swR; rw [← hf]
      refine ⟨by simp at hl ⊢; omega, L ++ stk.reverse.map (fun p => p.2 - p.1), rfl, ?_⟩
      rw [e2, ← List.map_reverse]
      exact hQ
  · obtain ⟨rfl, xs, stk, L, z1, z2, z3, z4, z5, e, rfl, hf, hq, hl⟩ := hI
    cases xs with
    | nil => simp at e
    | cons x xs =>
      simp only [List.map_cons, List.cons.injEq] at e
      obtain ⟨rfl, rfl⟩ := e
      obtain ⟨a, b⟩ := x
      have hab := hq (a, b) (by simp)
      simp only at hab
      simp only [List.map_cons, List.foldl_cons, List.length_cons] at hf hl
      simp only [pairN]
      walk_at "rd"
      rw [at_int a rfl hab.1, at_int b rfl hab.2]
      walk_at "rd"
      generalize hlow : ns.getD a 0 = low
      generalize hhigh : ns.getD b 0 = high
      have hf : List.foldl swS (swS (stk, L) (low, high)) (List.map (val2 ns) xs) = swF (runsT ns) := by rw [← hlow, ← hhigh]; exact hf
      clear hlow hhigh
      refine sw_w1 (by omega) fun z1 => ?_
      have l1 := popL_len low stk L
      have l2 := popH_len high (popL low stk L).1 low (popL low stk L).2
      refine sw_w2 (by omega) fun z2 => ?_
      walk_at "rd"
      have er : List.map pairD (popH high low (popL low stk L).1 (popL low stk L).2).2.1.reverse ++ [PyData.tuple [PyData.int (popH high low (popL low stk L).1 (popL low stk L).2).1, PyData.int high]] = List.map pairD (((popH high low (popL low stk L).1 (popL low stk L).2).1, high) :: (popH high low (popL low stk L).1 (popL low stk L).2).2.1).reverse := by simp [pairD]
      refine ⟨by simp; omega, hk _ _ ⟨rfl, xs, (swS (stk, L) (low, high)).1, (swS (stk, L) (low, high)).2, _, _, _, _, _, rfl, by rw [er]; rfl, hf, fun q hq' => hq q (by simp [hq']), ?_⟩⟩
      simp only [swS, List.length_cons]; omega

/-! swings -/
def P_swings : List R → Prop
  | [.dat (.tuple ds)] => isI ds ∧ trkOk (unI ds)
  | _ => False
def F_swings : List R → R
  | [.dat (.tuple ds)] => .own (.lst ((swL (unI ds)).map .int))
  | _ => .bag
def sp_swings : SpD := pureSp P_swings F_swings
theorem mono_swings : MonoSp sp_swings := mono_pure
theorem len_swings (rs : List R) (n : Nat) (Q : R → Nat → Prop) (h : sp_swings rs n Q) : rs.length = 1 := by
  have h1 := h.1; unfold P_swings at h1; split at h1 <;> first | rfl | exact h1.elim
abbrev s_swings : Stmt := topS 12
abbrev N_swings : List Str := ["track"]
theorem sc_swings : FnScope N_swings ["track"] (defScope s_swings) := ⟨rfl, rfl, rfl, by decide +kernel, rfl, by decide +kernel, by decide +kernel⟩
theorem cal_swings {f : Addr} {fd : FuncData} (F : Fun K "swings" "swings" s_swings f fd) (hm : mg "swings" = some (.ref f)) (Z : Glb mg) (C_swings_of : Cal P w K mg base "swings_of" ["track"] 2 sp_swings_of) (C_check_track : Cal P w K mg base "check_track" ["value"] 4 sp_check_track) : Cal P w K mg base "swings" ["track"] 5 sp_swings := by
  refine cal_mk F hm (F.binds fun _ _ _ _ _ _ us hl => match us, hl with | [_], _ => rfl) (fn_d F sc_swings len_swings (fun cdv A outer s0 H E hr =>
    fss_cons (fs_expr (fe_calls C_check_track mono_check_track (hr.mono (by decide)) (fa_consN (fe_varS 0) fa_nil)))
    (fss_one (fs_ret (fe_calls C_swings_of mono_swings_of (hr.mono (by decide)) (fa_consN (fe_varS 0) fa_nil))))) fun rs n Q h => ?_)
  obtain ⟨hP, hQ⟩ := h
  unfold P_swings at hP; split at hP
  all_goals try exact False.elim hP
  simp only [F_swings] at hQ
  unfold N_swings
  rename_i ds
  obtain ⟨⟨ns, rfl⟩, tk⟩ := hP
  rw [unI_map] at hQ tk
  have tk2 := tk.2.1
  walk_at "rd"
  simp only [pureSp, sp_swings_of, P_swings_of, F_swings_of, sp_check_track, P_check_track, F_check_track]
  refine ⟨isTrack_ints tk, ⟨isI_map _, by simp; omega⟩, ?_⟩
  rw [unI_map]
  exact hQ

/-! parts -/
def P_parts : List PyData → Prop
  | [.tuple ds] => isI ds ∧ trkOk (unI ds)
  | _ => False
def F_parts : List PyData → List PyData
  | [.tuple ds] => (partsL (unI ds)).map fun p => .tuple (p.map .int)
  | _ => []
theorem len_parts (ds : List PyData) (h : P_parts ds) : ds.length = 1 := by
  unfold P_parts at h; split at h <;> first | rfl | exact h.elim
abbrev s_parts : Stmt := topS 13
abbrev N_parts : List Str := ["track", "cuts", "start", "end"]
theorem sc_parts : GScope N_parts ["track"] (defScope s_parts) := ⟨rfl, rfl, rfl, by decide +kernel, rfl, by decide +kernel, by decide +kernel⟩
theorem pl_parts : Plain (defScope s_parts) := plain_mk rfl rfl (by decide +kernel) fun _ => rfl
theorem cal_parts {f : Addr} {fd : FuncData} (F : Fun K "parts" "parts" s_parts f fd) (hm : mg "parts" = some (.ref f)) (Z : Glb mg) (C_check_track : Cal P w K mg base "check_track" ["value"] 4 sp_check_track) : CalG P w K mg base "parts" ["track"] 5 P_parts F_parts := by
  refine calg_mk F hm (F.binds fun _ _ _ _ _ _ us hl => match us, hl with | [_], _ => rfl) sc_parts pl_parts len_parts (fun cdv A outer n gm C Q hr =>
    gds_cons (gd_plain fun _ _ => fs_expr (fe_calls C_check_track mono_check_track (hr.mono (by decide)) (fa_consN (fe_varS 0) fa_nil)))
    (gds_cons (gd_plain fun _ _ => fs_set 1 sc_parts.nd (fe_sortedSet rfl Z.sorted Z.set (fe_lst (fa_consN fe_int (fa_consN (fe_m_index (fe_var 0) (fe_maxT rfl hr.units Z.max (fa_cons (fe_var 0) fa_nil))) (fa_consN (fe_m_index (fe_var 0) (fe_minT rfl hr.units Z.min (fa_cons (fe_var 0) fa_nil))) (fa_consN (fe_sub (fe_len Z.len (fa_cons (fe_var 0) fa_nil)) fe_int) fa_nil)))))))
    (gds_cons (gd_if (fun _ _ => ft_eq hr.units (fe_len Z.len (fa_cons (fe_varS 1) fa_nil)) fe_int) (gds_cons (gd_yield fun _ _ => fe_var 0)
    (gds_nil))
    (gds_nil))
    (gds_cons (gd_for (fun _ _ => fi_zip Z.zip (fa_consN (fe_varS 1) (fa_consN (fe_slice (fe_varS 1) (fo_some fe_int) fo_none) fa_nil))) (fun _ _ => fg_tup (n := 2) rfl (fgs_cons (fg_name 2 sc_parts.nd) (fgs_cons (fg_name 3 sc_parts.nd) fgs_nil)))
    (gds_cons (gd_yield fun _ _ => fe_slice (fe_var 0) (fo_some (fe_var 2)) (fo_some (fe_add (fe_var 3) fe_int)))
    (gds_nil)))
    (gds_nil))))) fun ds hP => ?_
  unfold P_parts at hP; split at hP
  all_goals try exact False.elim hP
  simp only [F_parts]
  unfold N_parts
  rename_i ds
  obtain ⟨⟨ns, rfl⟩, tk⟩ := hP
  rw [unI_map] at tk ⊢
  have tk1 := tk.1
  have tk2 := tk.2.1
  walk_at "rd"
  simp only [pureSp, sp_check_track, P_check_track, F_check_track]
  refine ⟨isTrack_ints tk, ns, rfl, tk1, fun m hm hmx => ⟨ns, rfl, hm, ns, rfl, tk1, fun m' hm' hmn => ⟨ns, rfl, hm', [0, ((ns.idxOf m : Nat) : Int), ((ns.idxOf m' : Nat) : Int), (ns.length : Int) - 1], by rw [List.length_map]; rfl, by simp, fun out ho hom => ?_⟩⟩⟩
  obtain rfl := hiV_of hm hmx
  obtain rfl := loV_of hm' hmn
  obtain rfl : out = cutsL ns := asc_of ho hom
  clear ho hom hm hm' hmx hmn
  rw [cut_from _ _ (by decide)]
  have e1 : Int.toNat 1 = 1 := rfl
  rw [e1, zip_next]
  have hcl : (cutsL ns).length ≤ 4 := by
    have := nodup_len (nodup_lt (cuts_lt ns)) (xs := [0, ((ns.idxOf (hiV ns) : Nat) : Int), ((ns.idxOf (loV ns) : Nat) : Int), (ns.length : Int) - 1]) fun x hx => by
      rw [cuts_mem] at hx; simpa using hx
    simpa using this
  have hzl : ((cutsL ns).zip ((cutsL ns).drop 1)).length ≤ 4 := by rw [List.length_zip]; omega
  have hzm : ∀ p ∈ (cutsL ns).zip ((cutsL ns).drop 1), 0 ≤ p.1 ∧ 0 ≤ p.2 := fun p hp => by
    obtain ⟨h1, h2⟩ := List.of_mem_zip hp
    exact ⟨(cuts_bd tk1 h1).1, (cuts_bd tk1 (List.mem_of_mem_drop h2)).1⟩
  have go : ∀ acc : List (List Int), acc.length ≤ 1 → acc = (if (cutsL ns).length = 1 then [ns] else []) → gForGo (gdTup (gdCons (gdName 2) (gdCons (gdName 3) gdNil)) 2) (gThen (gYield (dSl (dVar 0) (dPart (dVar 2)) (dPart (dBin fAdd (dVar 3) (dC (R.dat (PyData.int 1))))))) g0)
      { nx := fun ys' ρ' => ys' = List.map (fun p => PyData.tuple (List.map PyData.int p)) (partsL ns), bk := fun x x_1 => False, ct := fun x x_1 => False }
      (((cutsL ns).zip ((cutsL ns).drop 1)).map pairD) (acc.map fun p => .tuple (p.map .int)) [.dat (.tuple (ns.map .int)), .dat (.list ((cutsL ns).map .int)), .un, .un] := by
    intro acc hacc ea
    refine gForGo_inv (I := fun rest ys ρ => ∃ (pre L : List (Int × Int)) (z2 z3 : Sl), (cutsL ns).zip ((cutsL ns).drop 1) = pre ++ L ∧ rest = L.map pairD ∧ ys = (acc ++ pre.map (segI ns)).map (fun p => PyData.tuple (p.map .int)) ∧ ρ = [.dat (.tuple (ns.map .int)), .dat (.list ((cutsL ns).map .int)), z2, z3])
      (fun ys ρ hI => ?_) (fun d rr ys ρ kk hI hk => ?_) ⟨[], _, .un, .un, rfl, rfl, by simp, rfl⟩
    · obtain ⟨pre, L, z2, z3, e, el, rfl, rfl⟩ := hI
      cases L with
      | cons _ _ => simp at el
      | nil =>
        rw [List.append_nil] at e
        unfold partsL
        rw [e, ea]
    · obtain ⟨pre, L, z2, z3, e, el, rfl, rfl⟩ := hI
      cases L with
      | nil => simp at el
      | cons p L =>
      simp only [List.map_cons, List.cons.injEq] at el
      obtain ⟨rfl, rfl⟩ := el
      have hp : pre.length ≤ 4 := by rw [e] at hzl; simp at hzl; omega
      obtain ⟨a, b⟩ := p
      obtain ⟨a0, b0⟩ := hzm (a, b) (by rw [e]; simp)
      simp only at a0 b0
      simp only [pairD]
      walk_at "rd"
      refine ⟨small60 (by simp; omega), ?_⟩
      have ec : cutL (ns.map PyData.int) (some a) (some (b + 1)) = (segI ns (a, b)).map PyData.int := by
        rw [cut_mid _ _ _ a0 (by omega)]
        unfold segI
        rw [List.map_drop, List.map_take]
      rw [ec]
      exact hk _ _ ⟨pre ++ [(a, b)], L, _, _, by rw [e]; simp, rfl, by simp, rfl⟩
  rw [List.length_map]
  by_cases h1 : (cutsL ns).length = 1
  · rw [if_pos (by simp [h1])]
    exact ⟨small60 (by decide), go [ns] (by simp) (by rw [if_pos h1])⟩
  · rw [if_neg (by simp; omega)]
    exact go [] (by simp) (by rw [if_neg h1])

/-! _law_well -/
def sp__law_well : SpD := fun rs n Q => match rs with
  | [.dat (.int _), .dat (.int t)] => True ∧ ∀ x y, Q (.own (.lst [.int x, .int y, .int t])) n
  | _ => False
theorem mono__law_well : MonoSp sp__law_well := fun rs n Q Q' m h => by
  unfold sp__law_well at h ⊢; split at h
  · exact ⟨h.1, fun x y => m _ _ (h.2 x y)⟩
  · exact h.elim
theorem len__law_well (rs : List R) (n : Nat) (Q : R → Nat → Prop) (h : sp__law_well rs n Q) : rs.length = 2 := by
  unfold sp__law_well at h; split at h <;> first | rfl | exact h.elim
abbrev s__law_well : Stmt := topS 15
abbrev N__law_well : List Str := ["cell", "turn"]
theorem sc__law_well : FnScope N__law_well ["cell", "turn"] (defScope s__law_well) := ⟨rfl, rfl, rfl, by decide +kernel, rfl, by decide +kernel, by decide +kernel⟩
theorem cal__law_well {f : Addr} {fd : FuncData} (F : Fun K "_law_well" "_law_well" s__law_well f fd) (hm : mg "_law_well" = some (.ref f)) (Z : Glb mg)  : Cal P w K mg base "_law_well" ["cell", "turn"] 1 sp__law_well := by
  refine cal_mk F hm (F.binds fun _ _ _ _ _ _ us hl => match us, hl with | [_, _], _ => rfl) (fn_d F sc__law_well len__law_well (fun cdv A outer s0 H E hr =>
    fss_cons (fs_if (ft_ge (fe_var 0) (fe_pow fe_int fe_int)) (fss_one (fs_ret (fe_lst (fa_consN (fe_sub (fe_var 0) (fe_pow fe_int fe_int)) (fa_consN (fe_mod (fe_var 0) fe_int) (fa_consN (fe_varS 1) fa_nil))))))
    (fss_nil))
    (fss_one (fs_ret (fe_lst (fa_consN fe_int (fa_consN (fe_mod (fe_var 0) fe_int) (fa_consN (fe_varS 1) fa_nil))))))) fun rs n Q h => ?_)
  unfold sp__law_well at h; split at h
  · rename_i c t
    unfold N__law_well
    walk_at "rd"
    have hp : CPow 10 18 := ⟨by decide, by decide, by decide⟩
    refine ⟨hp, ?_⟩
    split
    · exact ⟨hp, by decide, h.2 _ _⟩
    · exact ⟨by decide, h.2 _ _⟩
  · exact h.elim

/-! _law_take -/
def sp__law_take : SpD := fun rs n Q => match rs with
  | [.bag, .dat (.int m)] => (0 < m ∧ m < 1000000000 ∧ n < 1000000000000) ∧ ∀ k n', 0 ≤ k → k < m → n' ≤ n + 1 → Q (vI k) n'
  | _ => False
theorem mono__law_take : MonoSp sp__law_take := fun rs n Q Q' m h => by
  unfold sp__law_take at h ⊢; split at h
  · exact ⟨h.1, fun k n' h1 h2 h3 => m _ _ (h.2 k n' h1 h2 h3)⟩
  · exact h.elim
theorem len__law_take (rs : List R) (n : Nat) (Q : R → Nat → Prop) (h : sp__law_take rs n Q) : rs.length = 2 := by
  unfold sp__law_take at h; split at h <;> first | rfl | exact h.elim
abbrev s__law_take : Stmt := topS 16
abbrev N__law_take : List Str := ["bag", "many", "found", "p", "n"]
theorem sc__law_take : FnScope N__law_take ["bag", "many"] (defScope s__law_take) := ⟨rfl, rfl, rfl, by decide +kernel, rfl, by decide +kernel, by decide +kernel⟩
theorem cal__law_take {f : Addr} {fd : FuncData} (F : Fun K "_law_take" "_law_take" s__law_take f fd) (hm : mg "_law_take" = some (.ref f)) (Z : Glb mg)  : Cal P w K mg base "_law_take" ["bag", "many"] 1 sp__law_take := by
  refine cal_mk F hm (F.binds fun _ _ _ _ _ _ us hl => match us, hl with | [_, _], _ => rfl) (fn_d F sc__law_take len__law_take (fun cdv A outer s0 H E hr =>
    fss_cons (fs_if (ft_gt (fe_bagIx 0 0 (by decide)) fe_int) (fss_cons (fs_set 2 sc__law_take.nd (fe_mod (fe_bagIx 0 0 (by decide)) (fe_var 1)))
    (fss_cons (fs_bagSet 0 0 (by decide) (fe_div (fe_bagIx 0 0 (by decide)) (fe_var 1)))
    (fss_one (fs_retV 2))))
    (fss_nil))
    (fss_cons (fs_bagSet 0 2 (by decide) (fe_add (fe_bagIx 0 2 (by decide)) fe_int))
    (fss_cons (fs_set 3 sc__law_take.nd fe_int)
    (fss_cons (fs_set 4 sc__law_take.nd (fe_mod (fe_add (fe_bagIx 0 1 (by decide)) (fe_mul fe_int (fe_bagIx 0 2 (by decide)))) (fe_var 3)))
    (fss_cons (fs_set 4 sc__law_take.nd (fe_mod (fe_add (fe_add (fe_mul (fe_var 4) (fe_var 4)) (fe_mul fe_int (fe_pow (fe_bagIx 0 2 (by decide)) fe_int))) fe_int) (fe_var 3)))
    (fss_one (fs_ret (fe_mod (fe_div (fe_mod (fe_pow (fe_var 4) fe_int) (fe_var 3)) fe_int) (fe_var 1))))))))) fun rs n Q h => ?_)
  unfold sp__law_take at h; split at h
  · rename_i m
    obtain ⟨⟨m0, m1, n0⟩, h⟩ := h
    unfold N__law_take
    walk_at "rd"
    intro x0 _
    by_cases h0 : 0 < x0
    · rw [if_pos (by simpa using h0)]
      intro x1 _
      refine ⟨m0, fun x2 _ => ⟨⟨m0, by omega⟩, ?_⟩⟩
      rw [if_neg (by decide)]
      exact h _ _ (Int.emod_nonneg _ (by omega)) (Int.emod_lt_of_pos _ m0) (by omega)
    · rw [if_neg (by simpa using h0)]
      intro z hz
      have hz := hz trivial
      refine ⟨by omega, n + 1, by omega, fun y _ z1 hz1 => ?_⟩
      have hz1 := hz1 trivial
      have b1 := Int.emod_nonneg (y + 1000003 * z1) (b := 2305843009213693951) (by decide)
      have b2 := Int.emod_lt_of_pos (y + 1000003 * z1) (b := 2305843009213693951) (by decide)
      generalize (y + 1000003 * z1) % 2305843009213693951 = u at b1 b2 ⊢
      refine ⟨.inl ⟨by decide, by decide⟩, by decide, .inl ⟨by omega, by omega⟩, fun z2 hz2 => ?_⟩
      have hz2 := hz2 trivial
      refine ⟨⟨by decide, by decide, by omega⟩, .inl ⟨by decide, by decide⟩, by decide, ?_⟩
      generalize hv : (u * u + 7919 * z2 ^ Int.toNat 2 + 5) % 2305843009213693951 = v
      have b3 : 0 ≤ v := by rw [← hv]; exact Int.emod_nonneg _ (by decide)
      have b4 : v < 2305843009213693951 := by rw [← hv]; exact Int.emod_lt_of_pos _ (by decide)
      refine ⟨⟨by decide, by decide, by omega⟩, by decide, ⟨by decide, by decide⟩, m0, ?_⟩
      exact h _ _ (Int.emod_nonneg _ (by omega)) (Int.emod_lt_of_pos _ m0) (by omega)
  · exact h.elim

/-! _law_bags -/
--Z: enumerate
abbrev s__law_bags : Stmt := topS 17
abbrev N__law_bags : List Str := ["script", "most", "k", "cell"]
theorem sc__law_bags : FnScope N__law_bags ["script", "most"] (defScope s__law_bags) := ⟨rfl, rfl, rfl, by decide +kernel, rfl, by decide +kernel, by decide +kernel⟩
theorem cut_ints {ns : List Int} {lo hi : Option Int} {x : V} (h : x ∈ cutV (ns.map V.int) lo hi) : ∃ i, x = .int i := by
  have := List.mem_of_mem_drop (List.mem_of_mem_take h)
  obtain ⟨i, _, rfl⟩ := List.mem_map.mp this
  exact ⟨i, rfl⟩
theorem ok__law_bags {f : Addr} {fd : FuncData} (F : Fun K "_law_bags" "_law_bags" s__law_bags f fd) (Z : Glb mg) (C : Cal P w K mg base "_law_well" ["cell", "turn"] 1 sp__law_well) :
    FnOk P w K mg base CX0 2 f fd ["script", "most"] (spBags K) := by
  obtain ⟨fw, fdw, FW, hmw, hkw, hbw⟩ := C.ex
  refine F.ok sc__law_bags (fun vs H Q E h => ?_) (fun cdv A outer s H vs Q E hr h => ?_)
  · obtain ⟨a, ns, m, rfl, _⟩ := h; rfl
  · obtain ⟨a, ns, m, rfl, hS, hl, hm, q⟩ := h
    refine ⟨_, pss_one (ps_ret (pe_lc (own := [("k", 2), ("cell", 3)]) (g := gTup K 2 (gCons (gName 2) (gCons (gName 3) gNil))) rfl sc__law_bags.nd
      (pi_enum (by rfl) Z.enumerate (pa_cons (pe_op op_cat (pe_slice sl_list (pv 0) po_none (po_some (pv 1))) (pe_lst (pa_cons pe_int pa_nil))) pa_nil))
      (blkOk_by (N := N__law_bags) (sc := defScope s__law_bags) (by decide +kernel))
      (fun _ _ _ _ _ => pg_tup rfl (pgs_cons (pg_name (i := 2) sc__law_bags.nd rfl (.inl rfl) (.inr rfl)) (pgs_cons (pg_name (i := 3) sc__law_bags.nd rfl (.inl rfl) (.inr rfl)) pgs_nil)))
      (fun _ _ _ _ _ => pts_nil)
      (fun _ _ _ _ _ => pe_call FW hr (by rfl) hmw hkw hbw .nil pass0 (pa_cons (pv 3) (pa_cons (pe_op op_mul pe_int (pv 2)) pa_nil))))), ?_⟩
    refine ⟨.ref a, rfl, .int m, rfl, m, rfl, a, _, rfl, hS, fun c nc => ?_⟩
    refine ⟨by decide, fun z nz => ?_⟩
    have ncz : c ≠ z := fun e => by rw [← e, upd_same] at nz; cases nz
    refine ⟨c, z, _, _, rfl, rfl, by rw [upd_ne ncz, upd_same], upd_same, ?_, fun l nl => ?_⟩
    · have := cutV_length (ns.map V.int) none (some (m : Int))
      rw [List.length_map] at this
      exact small20 (by simp; omega)
    have s1 : Same H (upd (upd (upd H c (.lst (cutV (ns.map V.int) none (some (m : Int))))) z (.lst [.int 0])) l (.lst (cutV (ns.map V.int) none (some (m : Int)) ++ [.int 0]))) :=
      ((same_upd nc).trans (same_upd nz)).trans (same_upd nl)
    generalize hH1 : (upd (upd (upd H c (.lst (cutV (ns.map V.int) none (some (m : Int))))) z (.lst [.int 0])) l (.lst (cutV (ns.map V.int) none (some (m : Int)) ++ [.int 0]))) = H1 at s1 ⊢
    have hl1 : H1 l = some (.lst (cutV (ns.map V.int) none (some (m : Int)) ++ [.int 0])) := by rw [← hH1, upd_same]
    have hlen : (cutV (ns.map V.int) none (some (m : Int)) ++ [V.int 0]).length ≤ 1001 := by
      have := cutV_length (ns.map V.int) none (some (m : Int))
      rw [List.length_map] at this
      simp; omega
    have hints : ∀ x ∈ cutV (ns.map V.int) none (some (m : Int)) ++ [V.int 0], ∃ i, x = V.int i := by
      intro x hx
      rcases List.mem_append.mp hx with hx | hx
      · exact cut_ints hx
      · exact ⟨0, by simpa using hx⟩
    generalize cutV (ns.map V.int) none (some (m : Int)) ++ [V.int 0] = xs at hl1 hlen hints ⊢
    refine ⟨l, xs, rfl, SqL.of hl1, fun D nD => ?_⟩
    have nlD : l ≠ D := ne_of_none hl1 nD
    refine lc_it (walk_enum (xs := xs) (a := l)) (fun i H' => Same H1 H' ∧ H' l = some (.lst xs) ∧ ∃ bs : List Addr, H' D = some (.lst (bs.map V.ref)) ∧ bs.length ≤ i ∧ bs.Nodup ∧ ∀ b ∈ bs, BagAt H' b 1000000 ∧ b ≠ D)
      ⟨same_upd nD, by rw [upd_ne nlD]; exact hl1, [], upd_same, Nat.le_refl _, .nil, fun b h => by cases h⟩ (fun i H' _ h => SqL.of h.2.1) ?_ ?_
    · rintro i x H2 H3 hi ⟨sm, hl2, bs, hD, hbl, nd, hb⟩ ⟨T, x1, x2, rfl, nT, rfl, e1, e2⟩
      cases e1
      obtain ⟨cell, rfl⟩ := hints x2 (List.mem_of_getElem? e2)
      refine ⟨T, _, rfl, SqT.of upd_same, rfl, _, _, rfl, _, _, rfl, rfl, rfl, ?_⟩
      dsimp only [tYes]
      rw [if_pos rfl]
      refine ⟨_, rfl, _, rfl, _, _, rfl, rfl, .inl ⟨by decide, by decide⟩, ?_⟩
      have hc2 : Same H2 (upd H2 T (.tup [.int (i : Nat), .int cell])) := same_upd nT
      refine ⟨none, fun _ => none, [.dat (.int cell), .dat (.int (977 * (i : Int)))], 0, un_start (N := 0) (σ := []) rfl, .cons (Dq.int _) (.cons (Dq.int _) .nil), rfl, trivial, fun x y v Hs' H' D' R' => ?_⟩
      obtain ⟨b, rfl, ⟨ho, g1, g2, g3, g4, g5⟩, _⟩ := R'
      have hold : ∀ p o, H2 p = some o → H' p = some o := fun p o hp => D'.old p o (fun z => by cases z) (hc2 _ _ hp)
      cases ho with
      | lst vs =>
        have ev : vs = [V.int x, V.int y, V.int (977 * (i : Int))] := dpAll_ints_inv (ns := [x, y, 977 * (i : Int)]) g2
        subst ev
        have bD : b ≠ D := fun z => by
          have h4 : (upd H2 T (HO.tup [V.int (i : Nat), V.int cell])) b = none := g4
          rw [z] at h4
          rw [hc2 _ _ hD] at h4
          cases h4
        have bn : H2 b = none := hc2.free g4
        have lD : l ≠ D := nlD
        refine ⟨bs.map V.ref, hold _ _ hD, by rw [List.length_map]; exact small20' (by omega), fun p o hp => ?_, by rw [upd_ne lD]; exact hold _ _ hl2, bs ++ [b], by rw [upd_same]; simp, by simp; omega, ?_, fun b' hb' => ?_⟩
        · rw [upd_ne (ne_of_none hp nD)]; exact hold _ _ (sm _ _ hp)
        · refine List.nodup_append.mpr ⟨nd, by simp, fun a ha c hc => ?_⟩
          simp only [List.mem_singleton] at hc
          subst hc
          intro z; subst z
          obtain ⟨⟨x', y', z', e, _⟩, _⟩ := hb a ha
          rw [bn] at e; cases e
        · rcases List.mem_append.mp hb' with hb' | hb'
          · obtain ⟨⟨x', y', z', e, e'⟩, nb⟩ := hb b' hb'
            exact ⟨⟨x', y', z', by rw [upd_ne nb]; exact hold _ _ e, e'⟩, nb⟩
          · simp only [List.mem_singleton] at hb'
            subst hb'
            exact ⟨⟨x, y, _, by rw [upd_ne bD]; exact g1, by omega, by omega⟩, bD⟩
      | _ => exact g2.elim
    · rintro H2 ⟨sm, hl2, bs, hD, hbl, nd, hb⟩
      exact q H2 D bs (s1.trans sm) hD nd fun b h => (hb b h).1
theorem cal__law_bags {f : Addr} {fd : FuncData} (F : Fun K "_law_bags" "_law_bags" s__law_bags f fd) (hm : mg "_law_bags" = some (.ref f)) (Z : Glb mg) (C__law_well : Cal P w K mg base "_law_well" ["cell", "turn"] 1 sp__law_well) : CalB P w K mg base :=
  ⟨f, fd, ok__law_bags F Z C__law_well, hm, F.kp, F.binds fun _ _ _ _ _ _ us hl => match us, hl with | [_, _], _ => rfl⟩

/-! _law_same -/
abbrev s__law_same : Stmt := topS 18
abbrev N__law_same : List Str := ["a", "b", "x", "y"]
theorem sc__law_same : FnScope N__law_same ["a", "b"] (defScope s__law_same) := ⟨rfl, rfl, rfl, by decide +kernel, rfl, by decide +kernel, by decide +kernel⟩
/-- data of a depth -/
def okS : Nat → PyData → Prop
  | _, .none => True
  | _, .bool _ => True
  | _, .int _ => True
  | m + 1, .list ds => ds.length ≤ 1000 ∧ ∀ d ∈ ds, okS m d
  | m + 1, .tuple ds => ds.length ≤ 1000 ∧ ∀ d ∈ ds, okS m d
  | _, _ => False
def spOne (m : Nat) : SpD := fun rs n Q => match rs with
  | [.dat a, .dat b] => (a = b ∧ okS m a) ∧ Q (vB true) n
  | _ => False
def spS : Nat → SpD
  | 0 => fun _ _ _ => False
  | m + 1 => spOne m
theorem mono_one {m : Nat} : MonoSp (spOne m) := fun rs n Q Q' k h => by
  unfold spOne at h ⊢; split at h
  · exact ⟨h.1, k _ _ h.2⟩
  · exact h.elim
theorem mono_same : ∀ {m : Nat}, MonoSp (spS m)
  | 0 => fun rs n Q Q' k h => h
  | m + 1 => mono_one
theorem len_same : ∀ {m : Nat} (rs : List R) (n : Nat) (Q : R → Nat → Prop) (h : spS m rs n Q), rs.length = 2
  | 0, rs, n, Q, h => h.elim
  | m + 1, rs, n, Q, h => by
    have h : spOne m rs n Q := h
    unfold spOne at h; split at h <;> first | rfl | exact h.elim
theorem eqOk_b (b c : Bool) : EqOk (.bool b) (.bool c) := ⟨by cases b <;> decide +kernel, by cases c <;> decide +kernel, by cases b <;> cases c <;> simp [PyData.eqv]⟩
theorem zip_self (ds : List PyData) : zipD ds ds = ds.map fun d => .tuple [d, d] := by
  unfold zipD
  induction ds with
  | nil => rfl
  | cons d r ih => simp only [List.zip_cons_cons, List.map_cons, ih]
theorem same_comp {m n : Nat} {Q : R → Nat → Prop} {ds : List PyData} {a b c d : Sl} (hl : ds.length ≤ 1000) (ok : ∀ d ∈ ds, okS m d) (hQ : Q (vB true) n) :
    (ds.map fun d => PyData.tuple [d, d]).length ≤ 1000000 ∧ dLcGo (gdTup (gdCons (gdName 2) (gdCons (gdName 3) gdNil)) 2) dYes (dCall (spS (m + 1)) (dConsN (dVarS 2) (dConsN (dVarS 3) dNil))) [2, 3] (ds.map fun d => PyData.tuple [d, d]) [] [a, b, c, d] n fun out n2 =>
      ∃ bs, out = List.map PyData.bool bs ∧ Q (vB (bs.all id)) n2 := by
  refine ⟨by rw [List.length_map]; omega, lcGo_map (fun _ => .bool true) (fun d hd acc kk h => ?_) ⟨ds.map fun _ => true, by simp, ?_⟩⟩
  · obtain ⟨x, hx, rfl⟩ := List.mem_map.mp hd
    unfold lcTurn
    walk_at "rd"
    exact ⟨⟨rfl, ok x hx⟩, h⟩
  · have : (ds.map fun _ => true).all id = true := by simp
    rw [this]; exact hQ
theorem cal_same {f : Addr} {fd : FuncData} (F : Fun K "_law_same" "_law_same" s__law_same f fd) (hm : mg "_law_same" = some (.ref f)) (Z : Glb mg) : ∀ m : Nat, Cal P w K mg base "_law_same" ["a", "b"] m (spS m) := by
  intro m
  have hb : Binds K fd ["a", "b"] [] := F.binds fun _ _ _ _ _ _ us hl => match us, hl with | [_, _], _ => rfl
  induction m with
  | zero => exact cal_mk F hm hb ⟨fun vs H Q E ⟨_, _, _, _, _, _, _, h⟩ => h.elim, fun _ _ _ _ _ _ _ _ _ _ _ _ _ ⟨_, _, _, _, _, _, _, h⟩ => h.elim⟩
  | succ m ih =>
    have mono__law_same : MonoSp (spS m) := mono_same
    have C__law_same := ih
    refine cal_mk F hm hb (fn_d F sc__law_same len_same (fun cdv A outer s0 H E hr =>
      fss_cons (fs_if (FW.ft (fw_or (FW.ft (fw_and (ft_val (fe_isi Z.isinstance (fa_cons (fe_var 0) (fa_cons (fe_ty (T := "list") Z.list (by decide +kernel)) fa_nil)))) (fw_and1 (ft_val (fe_isi Z.isinstance (fa_cons (fe_var 1) (fa_cons (fe_ty (T := "list") Z.list (by decide +kernel)) fa_nil))))))) (fw_or1 (FW.ft (fw_and (ft_val (fe_isi Z.isinstance (fa_cons (fe_var 0) (fa_cons (fe_ty (T := "tuple") Z.tuple (by decide +kernel)) fa_nil)))) (fw_and1 (ft_val (fe_isi Z.isinstance (fa_cons (fe_var 1) (fa_cons (fe_ty (T := "tuple") Z.tuple (by decide +kernel)) fa_nil)))))))))) (fss_one (fs_ret (fe_and (fe_eq hr.units (fe_len Z.len (fa_cons (fe_var 0) fa_nil)) (fe_len Z.len (fa_cons (fe_var 1) fa_nil))) (fe_one (fe_all rfl Z.all (fa_cons (fe_lc (own := [("x", 2), ("y", 3)]) (vs := [2, 3]) rfl sc__law_same.nd (fi_zip Z.zip (fa_consN (fe_varS 0) (fa_consN (fe_varS 1) fa_nil))) (blkOk_by (N := N__law_same) (sc := defScope s__law_same) (by decide +kernel)) rfl (by decide) (fun _ _ _ _ _ => (fg_tup (n := 2) rfl (fgs_cons (fg_name 2 sc__law_same.nd) (fgs_cons (fg_name 3 sc__law_same.nd) fgs_nil)))) (fun _ _ _ _ _ => fts_nil) (fun _ _ _ _ _ => (fe_calls C__law_same mono__law_same hr (fa_consN (fe_varS 2) (fa_consN (fe_varS 3) fa_nil))))) fa_nil))))))
(fss_nil))
(fss_cons (fs_if (FW.ft (fw_or (ft_val (fe_isiT3 (a := "bool") (b := "list") (c := "tuple") Z.isinstance (fe_var 0) Z.bool Z.list Z.tuple (by decide +kernel) (by decide +kernel) (by decide +kernel) (by decide +kernel) (by decide +kernel) (by decide +kernel))) (fw_or1 (ft_val (fe_isiT3 (a := "bool") (b := "list") (c := "tuple") Z.isinstance (fe_var 1) Z.bool Z.list Z.tuple (by decide +kernel) (by decide +kernel) (by decide +kernel) (by decide +kernel) (by decide +kernel) (by decide +kernel)))))) (fss_one (fs_ret (fe_and (fe_isi Z.isinstance (fa_cons (fe_var 0) (fa_cons (fe_ty (T := "bool") Z.bool (by decide +kernel)) fa_nil))) (fe_and (fe_isi Z.isinstance (fa_cons (fe_var 1) (fa_cons (fe_ty (T := "bool") Z.bool (by decide +kernel)) fa_nil))) (fe_one (fe_eq hr.units (fe_var 0) (fe_var 1)))))))
(fss_nil))
(fss_cons (fs_if (FW.ft (fw_or (ft_val (fe_isi Z.isinstance (fa_cons (fe_var 0) (fa_cons (fe_ty (T := "int") Z.int (by decide +kernel)) fa_nil)))) (fw_or1 (ft_val (fe_isi Z.isinstance (fa_cons (fe_var 1) (fa_cons (fe_ty (T := "int") Z.int (by decide +kernel)) fa_nil))))))) (fss_one (fs_ret (fe_and (fe_isi Z.isinstance (fa_cons (fe_var 0) (fa_cons (fe_ty (T := "int") Z.int (by decide +kernel)) fa_nil))) (fe_and (fe_isi Z.isinstance (fa_cons (fe_var 1) (fa_cons (fe_ty (T := "int") Z.int (by decide +kernel)) fa_nil))) (fe_one (fe_eq hr.units (fe_var 0) (fe_var 1)))))))
(fss_nil))
(fss_cons (fs_if (FW.ft (fw_or (ft_val (fe_isi Z.isinstance (fa_cons (fe_var 0) (fa_cons (fe_ty (T := "str") Z.str (by decide +kernel)) fa_nil)))) (fw_or1 (ft_val (fe_isi Z.isinstance (fa_cons (fe_var 1) (fa_cons (fe_ty (T := "str") Z.str (by decide +kernel)) fa_nil))))))) (fss_one (fs_ret (fe_and (fe_isi Z.isinstance (fa_cons (fe_var 0) (fa_cons (fe_ty (T := "str") Z.str (by decide +kernel)) fa_nil))) (fe_and (fe_isi Z.isinstance (fa_cons (fe_var 1) (fa_cons (fe_ty (T := "str") Z.str (by decide +kernel)) fa_nil))) (fe_one (fe_eq hr.units (fe_var 0) (fe_var 1)))))))
(fss_nil))
(fss_one (fs_ret (fe_and (fe_isN (fe_var 0) fe_non) (fe_one (fe_isN (fe_var 1) fe_non))))))))) fun rs n Q h => ?_)
    have h1 : spOne m rs n Q := h
    clear h
    unfold spOne at h1; split at h1
    · rename_i a b
      obtain ⟨⟨e, ok⟩, hQ⟩ := h1
      subst e
      unfold N__law_same
      cases a with
      | none => walk_at "rd"; simp [isT, tag, isTag, okT]; exact hQ
      | bool b => walk_at "rd"; simp [isT, tag, isTag, okT]; exact ⟨eqOk_b _ _, hQ⟩
      | int i => walk_at "rd"; simp [isT, tag, isTag, okT]; exact hQ
      | str s => unfold okS at ok; exact ok.elim
      | dict s => unfold okS at ok; exact ok.elim
      | list ds =>
        cases m with
        | zero => exact ok.elim
        | succ m => walk_at "rd"; simp [isT, tag, isTag, okT]; rw [zip_self]; exact same_comp ok.1 ok.2 hQ
      | tuple ds =>
        cases m with
        | zero => exact ok.elim
        | succ m => walk_at "rd"; simp [isT, tag, isTag, okT]; rw [zip_self]; exact same_comp ok.1 ok.2 hQ
    · exact h1.elim
def sp__law_same : SpD := spS 6
theorem mono__law_same : MonoSp sp__law_same := mono_one
theorem cal__law_same {f : Addr} {fd : FuncData} (F : Fun K "_law_same" "_law_same" s__law_same f fd) (hm : mg "_law_same" = some (.ref f)) (Z : Glb mg) : Cal P w K mg base "_law_same" ["a", "b"] 6 sp__law_same := cal_same F hm Z 6
theorem same_go {a : PyData} {n : Nat} {Q : R → Nat → Prop} (ok : okS 5 a) (h : Q (vB true) n) : sp__law_same [.dat a, .dat a] n Q := ⟨⟨rfl, ok⟩, h⟩
theorem okS_int (m : Nat) (i : Int) : okS m (.int i) := by cases m <;> trivial
theorem okS_ints {m : Nat} {ns : List Int} (h : ns.length ≤ 1000) : okS (m + 1) (.list (ns.map .int)) := ⟨by rw [List.length_map]; exact h, fun d hd => by
  obtain ⟨x, _, rfl⟩ := List.mem_map.mp hd; exact okS_int _ _⟩
theorem okS_intsT {m : Nat} {ns : List Int} (h : ns.length ≤ 1000) : okS (m + 1) (.tuple (ns.map .int)) := ⟨by rw [List.length_map]; exact h, fun d hd => by
  obtain ⟨x, _, rfl⟩ := List.mem_map.mp hd; exact okS_int _ _⟩

/-! _law_track -/
def sp__law_track : SpD := fun rs n Q => match rs with
  | [.bag, .dat (.int most)] => (1 ≤ most ∧ most ≤ 60 ∧ n < 100000000000) ∧ ∀ ns n', trkDrawn most.toNat ns → n' ≤ n + 100 → Q (.dat (.tuple (ns.map .int))) n'
  | _ => False
theorem mono__law_track : MonoSp sp__law_track := fun rs n Q Q' m h => by
  unfold sp__law_track at h ⊢; split at h
  · exact ⟨h.1, fun k n' h1 h2 => m _ _ (h.2 k n' h1 h2)⟩
  · exact h.elim
theorem len__law_track (rs : List R) (n : Nat) (Q : R → Nat → Prop) (h : sp__law_track rs n Q) : rs.length = 2 := by
  unfold sp__law_track at h; split at h <;> first | rfl | exact h.elim
abbrev s__law_track : Stmt := topS 19
abbrev N__law_track : List Str := ["bag", "most", "size", "way", "wide", "found", "here", "place"]
theorem sc__law_track : FnScope N__law_track ["bag", "most"] (defScope s__law_track) := ⟨rfl, rfl, rfl, by decide +kernel, rfl, by decide +kernel, by decide +kernel⟩
theorem cal__law_track {f : Addr} {fd : FuncData} (F : Fun K "_law_track" "_law_track" s__law_track f fd) (hm : mg "_law_track" = some (.ref f)) (Z : Glb mg) (C__law_take : Cal P w K mg base "_law_take" ["bag", "many"] 1 sp__law_take) : Cal P w K mg base "_law_track" ["bag", "most"] 2 sp__law_track := by
  refine cal_mk F hm (F.binds fun _ _ _ _ _ _ us hl => match us, hl with | [_, _], _ => rfl) (fn_d F sc__law_track len__law_track (fun cdv A outer s0 H E hr =>
    fss_cons (fs_par3 2 3 4 rfl sc__law_track.nd (fa_cons (fe_add fe_int (fe_calls C__law_take mono__law_take (hr.mono (by decide)) (fa_consN (fe_varS 0) (fa_consN (fe_varS 1) fa_nil)))) (fa_cons (fe_calls C__law_take mono__law_take (hr.mono (by decide)) (fa_consN (fe_varS 0) (fa_consN fe_int fa_nil))) (fa_cons (fe_ix (fe_lst (fa_consN fe_int (fa_consN fe_int (fa_consN fe_int fa_nil)))) (fe_calls C__law_take mono__law_take (hr.mono (by decide)) (fa_consN (fe_varS 0) (fa_consN fe_int fa_nil)))) fa_nil))))
    (fss_cons (fs_par2 5 6 rfl sc__law_track.nd (fa_cons (fe_tup fa_nil) (fa_cons (fe_calls C__law_take mono__law_take (hr.mono (by decide)) (fa_consN (fe_varS 0) (fa_consN (fe_varS 4) fa_nil))) fa_nil)))
    (fss_cons (fs_for PassesOwn.never rfl (fi_range1 Z.range (fa_cons (fe_var 2) fa_nil)) (fg_name 7 sc__law_track.nd)
    (fss_cons (fs_if (ft_eq hr.units (fe_var 3) fe_int) (fss_one (fs_set 6 sc__law_track.nd (fe_calls C__law_take mono__law_take (hr.mono (by decide)) (fa_consN (fe_varS 0) (fa_consN (fe_varS 4) fa_nil)))))
    (fss_one (fs_if (ft_eq hr.units (fe_var 3) fe_int) (fss_one (fs_set 6 sc__law_track.nd (fe_sub (fe_add (fe_var 6) (fe_calls C__law_take mono__law_take (hr.mono (by decide)) (fa_consN (fe_varS 0) (fa_consN fe_int fa_nil)))) fe_int)))
    (fss_one (fs_if (ft_eq hr.units (fe_var 3) fe_int) (fss_one (fs_set 6 sc__law_track.nd (fe_mul (fe_sub (fe_mul fe_int (fe_mod (fe_var 7) fe_int)) fe_int) (fe_add (fe_var 7) (fe_calls C__law_take mono__law_take (hr.mono (by decide)) (fa_consN (fe_varS 0) (fa_consN (fe_varS 4) fa_nil)))))))
    (fss_one (fs_if (ft_eq hr.units (fe_var 3) fe_int) (fss_one (fs_set 6 sc__law_track.nd (fe_mul (fe_sub (fe_mul fe_int (fe_mod (fe_var 7) fe_int)) fe_int) (fe_add (fe_sub (fe_var 2) (fe_var 7)) (fe_calls C__law_take mono__law_take (hr.mono (by decide)) (fa_consN (fe_varS 0) (fa_consN fe_int fa_nil)))))))
    (fss_one (fs_set 6 sc__law_track.nd (fe_mul (fe_calls C__law_take mono__law_take (hr.mono (by decide)) (fa_consN (fe_varS 0) (fa_consN fe_int fa_nil))) (fe_var 4)))))))))))
    (fss_one (fs_set 5 sc__law_track.nd (fe_add (fe_var 5) (fe_tup (fa_consN (fe_varS 6) fa_nil)))))))
    (fss_one (fs_retV 5))))) fun rs n Q h => ?_)
  unfold sp__law_track at h; split at h
  · rename_i most
    obtain ⟨⟨m0, m1, n0⟩, h⟩ := h
    unfold N__law_track
    walk_at "rd"
    simp only [pureSp, sp__law_take]
    refine ⟨⟨by omega, by omega, by omega⟩, fun k n1 hk0 hk1 hn1 => ⟨⟨by decide, by decide, by omega⟩, fun way n2 hw0 hw1 hn2 => ⟨⟨by decide, by decide, by omega⟩, fun k2 n3 h20 h21 hn3 => ?_⟩⟩⟩
    obtain ⟨wide, ew, hw⟩ : ∃ wide : Int, atI [PyData.int 4, PyData.int 12, PyData.int 300] k2 = some (.int wide) ∧ 1 ≤ wide ∧ wide ≤ 300 := by
      rcases (by omega : k2 = 0 ∨ k2 = 1 ∨ k2 = 2) with rfl | rfl | rfl
      · exact ⟨4, rfl, by decide, by decide⟩
      · exact ⟨12, rfl, by decide, by decide⟩
      · exact ⟨300, rfl, by decide, by decide⟩
    rw [ew]
    walk_at "rd"
    refine ⟨⟨by omega, by omega, by omega⟩, fun k3 n4 h30 h31 hn4 => ⟨⟨by omega, by omega⟩, ?_⟩⟩
    refine forGo_inv (I := fun rest ρ n' => ∃ i : Nat, rest = (rng 0 (1 + k)).drop i ∧ (i : Int) ≤ 1 + k ∧ n' ≤ n + 10 + i ∧ ∃ (ns : List Int) (here : Int) (z : Sl),
        ρ = [.bag, .dat (.int most), .dat (.int (1 + k)), .dat (.int way), .dat (.int wide), .dat (.tuple (ns.map .int)), .dat (.int here), z] ∧ ns.length = i ∧ (∀ x ∈ ns, -(300 + 2 * (i : Int)) ≤ x ∧ x ≤ 300 + 2 * (i : Int)) ∧ -(300 + 2 * (i : Int)) ≤ here ∧ here ≤ 300 + 2 * (i : Int))
      (fun ρ n' hI => ?_) (fun d rr ρ n' kk hI hk => ?_) ⟨0, rfl, by omega, by omega, [], k3, .un, rfl, rfl, by simp, by omega, by omega⟩
    · obtain ⟨i, e, hi, hn, ns, here, z, rfl, hl, hb, _⟩ := hI
      have hi2 := rng_end e.symm
      walk_at "rd"
      refine h ns n' ⟨by omega, by omega, fun x hx => ?_⟩ (by omega)
      have := hb x hx
      omega
    · obtain ⟨i, e, hi, hn, ns, here, z, rfl, hl, hb, hh0, hh1⟩ := hI
      obtain ⟨rfl, rfl, hlt⟩ := rng_drop e.symm
      have close : ∀ (here' : Int) (n'' : Nat), n'' ≤ n' + 1 → -(300 + 2 * ((i : Int) + 1)) ≤ here' → here' ≤ 300 + 2 * ((i : Int) + 1) →
          (ns.map PyData.int).length ≤ 999999 ∧ kk [.bag, .dat (.int most), .dat (.int (1 + k)), .dat (.int way), .dat (.int wide), .dat (.tuple (ns.map .int ++ [.int here'])), .dat (.int here'), .dat (.int (0 + (i : Int)))] n'' := by
        intro here' n'' g1 g2 g3
        refine ⟨by rw [List.length_map]; omega, hk _ _ ⟨i + 1, rfl, by omega, by omega, ns ++ [here'], here', _, by simp; rfl, by simp; exact hl, fun x hx => ?_, by omega, by omega⟩⟩
        rcases List.mem_append.mp hx with hx | hx
        · have := hb x hx; omega
        · simp only [List.mem_singleton] at hx; subst hx; omega
      walk_at "rd"
      simp only [pureSp, sp__law_take]
      have hm := Int.emod_two_eq (0 + (i : Int))
      by_cases w0 : way = 0
      · rw [if_pos (by simpa using w0)]
        exact ⟨⟨by omega, by omega, by omega⟩, fun k5 n5 a b c => close k5 n5 c (by omega) (by omega)⟩
      rw [if_neg (by simpa using w0)]
      by_cases w1 : way = 1
      · rw [if_pos (by simpa using w1)]
        exact ⟨⟨by omega, by omega, by omega⟩, fun k5 n5 a b c => close _ n5 c (by omega) (by omega)⟩
      rw [if_neg (by simpa using w1)]
      by_cases w2 : way = 2
      · rw [if_pos (by simpa using w2)]
        refine ⟨by decide, .inl ⟨by decide, by decide⟩, ⟨by omega, by omega, by omega⟩, fun k5 n5 a b c => ⟨.inl ⟨by omega, by omega⟩, ?_⟩⟩
        rcases hm with e | e <;> (rw [e]; exact close _ n5 c (by omega) (by omega))
      rw [if_neg (by simpa using w2)]
      by_cases w3 : way = 3
      · rw [if_pos (by simpa using w3)]
        refine ⟨by decide, .inl ⟨by decide, by decide⟩, ⟨by omega, by omega, by omega⟩, fun k5 n5 a b c => ⟨.inl ⟨by omega, by omega⟩, ?_⟩⟩
        rcases hm with e | e <;> (rw [e]; exact close _ n5 c (by omega) (by omega))
      rw [if_neg (by simpa using w3)]
      refine ⟨⟨by omega, by omega, by omega⟩, fun k5 n5 a b c => ⟨.inl ⟨by omega, by omega⟩, ?_⟩⟩
      rcases (by omega : k5 = 0 ∨ k5 = 1) with rfl | rfl <;> exact close _ n5 c (by omega) (by omega)
  · exact h.elim

/-! _law_parts -/
def P__law_parts : List R → Prop
  | [.dat (.tuple ds)] => isI ds ∧ trkOk (unI ds)
  | _ => False
def F__law_parts : List R → R
  | [.dat (.tuple ds)] => if (cutsL (unI ds)).length = 1 then .own (.lst ((partsL (unI ds)).map fun p => .tuple (p.map .int))) else .dat (.list ((partsL (unI ds)).map fun p => .tuple (p.map .int)))
  | _ => .bag
def enumP (k : Nat) : List Int → List PyData
  | [] => []
  | x :: r => .tuple [.int (k : Int), .int x] :: enumP (k + 1) r
theorem enumP_go : ∀ (k : Nat) (ns : List Int), ((ns.map PyData.int).zipIdx k).map (fun x => PyData.tuple [.int (x.2 : Int), x.1]) = enumP k ns
  | _, [] => rfl
  | k, x :: r => by
    rw [List.map_cons, List.zipIdx_cons, List.map_cons, enumP_go (k + 1) r]; rfl
theorem enumP_of (ns : List Int) : enumD (ns.map PyData.int) = enumP 0 ns := enumP_go 0 ns
theorem hi_at {sgn : Int} {ns : List Int} {k h : Nat} (H : Hi sgn ns k h) : ∃ y, ns[h]? = some y ∧ atI (ns.map PyData.int) (h : Int) = some (.int y) := by
  refine ⟨ns[h]'H.lt, List.getElem?_eq_getElem H.lt, atI_of (by omega) ?_⟩
  rw [Int.toNat_natCast, List.getElem?_map, List.getElem?_eq_getElem H.lt]; rfl
theorem plD_tupsI (L : List (List Int)) : plD 2 (.list (L.map fun p => .tuple (p.map .int))) := fun d hd => by
  obtain ⟨p, _, rfl⟩ := List.mem_map.mp hd
  intro e he
  obtain ⟨x, _, rfl⟩ := List.mem_map.mp he
  trivial
theorem eqOk_tupsI (L : List (List Int)) (a : List PyData) (ha : (L.map fun p => PyData.tuple (p.map .int)) = a) (M : List (List Int)) (b : List PyData) (hb : (M.map fun p => PyData.tuple (p.map .int)) = b) : EqOk (.list a) (.list b) := by
  subst ha hb
  exact eqOk_pl (plD_tupsI L) (plD_tupsI M)
def sp__law_parts : SpD := pureSp P__law_parts F__law_parts
theorem mono__law_parts : MonoSp sp__law_parts := mono_pure
theorem len__law_parts (rs : List R) (n : Nat) (Q : R → Nat → Prop) (h : sp__law_parts rs n Q) : rs.length = 1 := by
  have h1 := h.1; unfold P__law_parts at h1; split at h1 <;> first | rfl | exact h1.elim
abbrev s__law_parts : Stmt := topS 20
abbrev N__law_parts : List Str := ["track", "high", "low", "place", "height", "cuts", "found", "at"]
theorem sc__law_parts : FnScope N__law_parts ["track"] (defScope s__law_parts) := ⟨rfl, rfl, rfl, by decide +kernel, rfl, by decide +kernel, by decide +kernel⟩
theorem cal__law_parts {f : Addr} {fd : FuncData} (F : Fun K "_law_parts" "_law_parts" s__law_parts f fd) (hm : mg "_law_parts" = some (.ref f)) (Z : Glb mg)  : Cal P w K mg base "_law_parts" ["track"] 1 sp__law_parts := by
  refine cal_mk F hm (F.binds fun _ _ _ _ _ _ us hl => match us, hl with | [_], _ => rfl) (fn_d F sc__law_parts len__law_parts (fun cdv A outer s0 H E hr =>
    fss_cons (fs_unp rfl (fe_tup (fa_consN fe_int (fa_consN fe_int fa_nil))) (fn_cons 1 sc__law_parts.nd (fn_cons 2 sc__law_parts.nd fn_nil)))
    (fss_cons (fs_for PassesOwn.never rfl (fi_enumT Z.enumerate (fe_var 0)) (fg_tup (n := 2) rfl (fgs_cons (fg_name 3 sc__law_parts.nd) (fgs_cons (fg_name 4 sc__law_parts.nd) fgs_nil)))
    (fss_cons (fs_set 1 sc__law_parts.nd (fe_ifE (ft_gt (fe_var 4) (fe_ix (fe_var 0) (fe_var 1))) (fe_varS 3) (fe_varS 1)))
    (fss_one (fs_set 2 sc__law_parts.nd (fe_ifE (ft_lt (fe_var 4) (fe_ix (fe_var 0) (fe_var 2))) (fe_varS 3) (fe_varS 2))))))
    (fss_cons (fs_set 5 sc__law_parts.nd (fe_sortedSet rfl Z.sorted Z.set (fe_lst (fa_consN fe_int (fa_consN (fe_varS 1) (fa_consN (fe_varS 2) (fa_consN (fe_sub (fe_len Z.len (fa_cons (fe_var 0) fa_nil)) fe_int) fa_nil)))))))
    (fss_cons (fs_set 6 sc__law_parts.nd (fe_lst fa_nil))
    (fss_cons (fs_for PassesOwn.never rfl (fi_range1 Z.range (fa_cons (fe_sub (fe_len Z.len (fa_cons (fe_var 5) fa_nil)) fe_int) fa_nil)) (fg_name 7 sc__law_parts.nd)
    (fss_one (fs_app 6 (fe_slice (fe_var 0) (fo_some (fe_ix (fe_var 5) (fe_var 7))) (fo_some (fe_add (fe_ix (fe_var 5) (fe_add (fe_var 7) fe_int)) fe_int))))))
    (fss_one (fs_ret (fe_ifE (ft_ne hr.units (fe_varS 6) (fe_lst fa_nil)) (fe_varS 6) (fe_lst (fa_consN (fe_varS 0) fa_nil)))))))))) fun rs n Q h => ?_)
  obtain ⟨hP, hQ⟩ := h
  unfold P__law_parts at hP; split at hP
  all_goals try exact False.elim hP
  simp only [F__law_parts] at hQ
  unfold N__law_parts
  rename_i ds
  obtain ⟨⟨ns, rfl⟩, tk⟩ := hP
  rw [unI_map] at tk hQ
  have tk1 := tk.1
  have tk2 := tk.2.1
  refine seq_cut fun nx hk => ?_
  walk_at "rd"
  refine hk _ _ ?_
  clear hk nx
  refine seq_cut fun nx hk => ?_
  walk_at "rd"
  rw [enumP_of]
  refine forGo_inv (I := fun rest ρ n' => n' = n ∧ ∃ (k h1 h2 : Nat) (xs : List Int) (z3 z4 : Sl), rest = enumP k xs ∧ xs = ns.drop k ∧ k ≤ ns.length ∧ Hi 1 ns k h1 ∧ Hi (-1) ns k h2 ∧ ρ = [.dat (.tuple (ns.map .int)), .dat (.int (h1 : Int)), .dat (.int (h2 : Int)), z3, z4, .un, .un, .un])
    (fun ρ n' hI => ?_) (fun d rr ρ n' kk hI hkk => ?_) ⟨rfl, 0, 0, 0, ns, .un, .un, rfl, rfl, by omega, Hi.start tk1, Hi.start tk1, rfl⟩
  case refine_2 =>
    obtain ⟨rfl, k, h1, h2, xs, z3, z4, e, hx, hkl, H1, H2, rfl⟩ := hI
    cases xs with
    | nil => cases e
    | cons x xs =>
    have hlt : k < ns.length := by
      rcases Nat.lt_or_ge k ns.length with q | q
      · exact q
      · rw [List.drop_eq_nil_of_le q] at hx; cases hx
    rw [List.drop_eq_getElem_cons hlt] at hx
    injection hx with hx1 hx2
    have hxk : ns[k]? = some x := by rw [List.getElem?_eq_getElem hlt, hx1]
    simp only [enumP, List.cons.injEq] at e
    obtain ⟨rfl, rfl⟩ := e
    obtain ⟨y1, g1, a1⟩ := hi_at H1
    obtain ⟨y2, g2, a2⟩ := hi_at H2
    have S1 := H1.step hxk g1
    have S2 := H2.step hxk g2
    simp only [gdTup, gdCons, gdName, gdNil, List.set_cons_zero, List.set_cons_succ, List.length_cons, List.length_nil, Nat.zero_add, Nat.reduceAdd, true_and]
    refine seq_cut fun nx2 hk2 => ?_
    have fin : ∀ h1' : Nat, Hi 1 ns (k + 1) h1' → nx2 [.dat (.tuple (ns.map .int)), .dat (.int (h1' : Int)), .dat (.int (h2 : Int)), .dat (.int (k : Int)), .dat (.int x), .un, .un, .un] n' := by
      intro h1' S1'
      refine hk2 _ _ ?_
      walk_at "rd"
      rw [a2]
      simp only
      by_cases q : x < y2
      · rw [if_pos (by simpa using q)]
        rw [if_pos (by omega)] at S2
        exact hkk _ _ ⟨rfl, k + 1, h1', k, xs, _, _, rfl, hx2, by omega, S1', S2, rfl⟩
      · rw [if_neg (by simpa using q)]
        rw [if_neg (by omega)] at S2
        exact hkk _ _ ⟨rfl, k + 1, h1', h2, xs, _, _, rfl, hx2, by omega, S1', S2, rfl⟩
    walk_at "rd"
    rw [a1]
    simp only
    by_cases q : x > y1
    · rw [if_pos (by simpa using q)]
      rw [if_pos (by omega)] at S1
      exact fin k S1
    · rw [if_neg (by simpa using q)]
      rw [if_neg (by omega)] at S1
      exact fin h1 S1
  obtain ⟨rfl, k, h1, h2, xs, z3, z4, e, hx, hkl, H1, H2, rfl⟩ := hI
  cases xs with
  | cons _ _ => cases e
  | nil =>
  have hke : k = ns.length := by
    have := congrArg List.length hx
    rw [List.length_drop] at this
    simp at this; omega
  subst hke
  have i1 := H1.hi
  have i2 := H2.lo
  refine hk _ _ ?_
  clear hk nx
  refine seq_cut fun nx hk => ?_
  walk_at "rd"
  refine ⟨[0, (h1 : Int), (h2 : Int), (ns.length : Int) - 1], by rw [List.length_map]; rfl, by simp, fun out ho hom => hk _ _ ?_⟩
  clear hk nx
  obtain rfl : out = cutsL ns := asc_of ho (by rw [i1, i2]; exact hom)
  have hcl : (cutsL ns).length ≤ 4 := by
    have := nodup_len (nodup_lt (cuts_lt ns)) (xs := [0, ((ns.idxOf (hiV ns) : Nat) : Int), ((ns.idxOf (loV ns) : Nat) : Int), (ns.length : Int) - 1]) fun x hx => by
      rw [cuts_mem] at hx; simpa using hx
    simpa using this
  have hc1 : 1 ≤ (cutsL ns).length := by obtain ⟨r, e⟩ := cuts_head tk1; rw [e]; simp
  have hzl : ((cutsL ns).zip ((cutsL ns).drop 1)).length = (cutsL ns).length - 1 := by rw [List.length_zip, List.length_drop]; omega
  refine seq_cut fun nx hk => ?_
  walk_at "rd"
  refine hk _ _ ?_
  clear hk nx
  refine seq_cut fun nx hk => ?_
  walk_at "rd"
  rw [List.length_map]
  refine ⟨⟨by omega, by omega⟩, forGo_inv (I := fun rest ρ n'' => n'' = n' ∧ ∃ (i : Nat) (z : Sl), rest = (rng 0 ((cutsL ns).length - 1)).drop i ∧ i ≤ (cutsL ns).length - 1 ∧
      ρ = [.dat (.tuple (ns.map .int)), .dat (.int (h1 : Int)), .dat (.int (h2 : Int)), z3, z4, .own (.lst ((cutsL ns).map .int)), .own (.lst ((((cutsL ns).zip ((cutsL ns).drop 1)).take i).map fun p => .tuple ((segI ns p).map .int))), z])
    (fun ρ n'' hI => ?_) (fun d rr ρ n'' kk hI hkk => ?_) ⟨rfl, 0, .un, rfl, by omega, rfl⟩⟩
  case refine_2 =>
    obtain ⟨rfl, i, z, e, hi, rfl⟩ := hI
    obtain ⟨rfl, rfl, hlt⟩ := rng_drop e.symm
    have hi1 : i + 1 < (cutsL ns).length := by omega
    have c1 : atI ((cutsL ns).map PyData.int) (0 + (i : Int)) = some (.int ((cutsL ns)[i]'(by omega))) := by
      refine atI_of (by omega) ?_
      rw [show (0 + (i : Int)).toNat = i by omega, List.getElem?_map, List.getElem?_eq_getElem (by omega)]; rfl
    have c2 : atI ((cutsL ns).map PyData.int) (0 + (i : Int) + 1) = some (.int ((cutsL ns)[i + 1]'hi1)) := by
      refine atI_of (by omega) ?_
      rw [show (0 + (i : Int) + 1).toNat = i + 1 by omega, List.getElem?_map, List.getElem?_eq_getElem hi1]; rfl
    have b1 := (cuts_bd tk1 (List.getElem_mem (show i < (cutsL ns).length by omega))).1
    have b2 := (cuts_bd tk1 (List.getElem_mem hi1)).1
    walk_at "rd"
    rw [c1, c2]
    simp only
    have hz : ((cutsL ns).zip ((cutsL ns).drop 1))[i]? = some ((cutsL ns)[i]'(by omega), (cutsL ns)[i + 1]'hi1) := by
      rw [List.getElem?_zip_eq_some]
      exact ⟨List.getElem?_eq_getElem (by omega), by rw [List.getElem?_drop, Nat.add_comm]; exact List.getElem?_eq_getElem hi1⟩
    generalize (cutsL ns)[i]'(by omega) = a at *
    generalize (cutsL ns)[i + 1]'hi1 = b at *
    have ec : cutL (ns.map PyData.int) (some a) (some (b + 1)) = (segI ns (a, b)).map PyData.int := by
      rw [cut_mid _ _ _ b1 (by omega)]
      unfold segI
      rw [List.map_drop, List.map_take]
    rw [ec]
    refine ⟨by rw [List.length_map, List.length_take]; omega, hkk _ _ ⟨rfl, i + 1, .dat (.int (0 + (i : Int))), rfl, by omega, ?_⟩⟩
    rw [List.take_add_one, hz]
    simp
  obtain ⟨rfl, i, z, e, hi, rfl⟩ := hI
  have hie := rng_end e.symm
  have hi2 : i = (cutsL ns).length - 1 := by omega
  rw [hi2, List.take_of_length_le (by omega)]
  refine hk _ _ ?_
  clear hk nx
  walk_at "rd"
  unfold partsL at hQ
  refine ⟨eqOk_tupsI (((cutsL ns).zip ((cutsL ns).drop 1)).map (segI ns)) _ (by rw [List.map_map]; rfl) [] _ rfl, fun hz => ?_, fun hz => ?_⟩
  · have hz0 : ((cutsL ns).zip ((cutsL ns).drop 1)).length = 0 := by
      have := congrArg (fun d => match d with | PyData.list l => l.length | _ => 0) hz
      simpa using this
    have h1 : (cutsL ns).length = 1 := by omega
    have e0 := List.eq_nil_of_length_eq_zero hz0
    rw [if_pos h1, if_pos h1, e0] at hQ
    exact hQ
  · have h1 : ¬ (cutsL ns).length = 1 := fun h1 => hz (by
      have e0 : (cutsL ns).zip ((cutsL ns).drop 1) = [] := List.eq_nil_of_length_eq_zero (by omega)
      rw [e0]; rfl)
    rw [if_neg h1, if_neg h1, List.nil_append, List.map_map] at hQ
    exact hQ

/-! law -/
theorem okS_tupsI {L : List (List Int)} (h : L.length ≤ 1000) (h2 : ∀ p ∈ L, p.length ≤ 1000) : okS 5 (.list (L.map fun p => .tuple (p.map .int))) := ⟨by rw [List.length_map]; exact h, fun d hd => by
  obtain ⟨p, hp, rfl⟩ := List.mem_map.mp hd
  exact okS_intsT (h2 p hp)⟩
abbrev s_law : Stmt := topS 21
abbrev N_law : List Str := ["script", "bag", "track", "whole", "place", "height", "both", "seen", "part", "one", "other", "joint"]
theorem sc_law : FnScope N_law ["script"] (defScope s_law) := ⟨rfl, rfl, rfl, by decide +kernel, rfl, by decide +kernel, by decide +kernel⟩
theorem ok_law {f : Addr} {fd : FuncData} (F : Fun K "law" "law" s_law f fd) (Z : Glb mg) (GB : CalB P w K mg base) (C_swings : Cal P w K mg base "swings" ["track"] 5 sp_swings) (C__law_track : Cal P w K mg base "_law_track" ["bag", "most"] 2 sp__law_track) (C__law_same : Cal P w K mg base "_law_same" ["a", "b"] 6 sp__law_same) (C__law_parts : Cal P w K mg base "_law_parts" ["track"] 1 sp__law_parts) (C_parts : CalG P w K mg base "parts" ["track"] 5 P_parts F_parts) : FnOk P w K mg base CX0 (8 + 1) f fd ["script"] (spLaw K) := by
  obtain ⟨fb, fdb, FB, hmb, hkb, hbb⟩ := GB.ex
  refine F.ok sc_law (fun vs H Q E h => ?_) (fun cdv A outer s0 H vs Q E hr h => ?_)
  · obtain ⟨a, ns, rfl, _⟩ := h; rfl
  · obtain ⟨a, ns, rfl, hS, hl, q⟩ := h
    have hB := (fss_cons (fs_set 2 sc_law.nd (fe_calls C__law_track mono__law_track (hr.mono (by decide)) (fa_consN (fe_varS 1) (fa_consN fe_int fa_nil))))
(fss_cons (fs_set 3 sc_law.nd (fe_calls C_swings mono_swings (hr.mono (by decide)) (fa_consN (fe_varS 2) fa_nil)))
(fss_cons (fs_for PassesOwn.never rfl (fi_enumT Z.enumerate (fe_var 2)) (fg_tup (n := 2) rfl (fgs_cons (fg_name 4 sc_law.nd) (fgs_cons (fg_name 5 sc_law.nd) fgs_nil)))
(fss_one (fs_if (ft_in (fe_var 5) (fe_tup (fa_consN (fe_maxT rfl hr.units Z.max (fa_cons (fe_var 2) fa_nil)) (fa_consN (fe_minT rfl hr.units Z.min (fa_cons (fe_var 2) fa_nil)) fa_nil)))) (fss_cons (fs_set 6 sc_law.nd (fe_add (fe_calls C_swings mono_swings (hr.mono (by decide)) (fa_consN (fe_slice (fe_var 2) fo_none (fo_some (fe_add (fe_var 4) fe_int))) fa_nil)) (fe_calls C_swings mono_swings (hr.mono (by decide)) (fa_consN (fe_slice (fe_var 2) (fo_some (fe_var 4)) fo_none) fa_nil))))
(fss_one (fs_if (ft_ne hr.units (fe_rev (fe_sorted Z.sorted (fa_cons (fe_var 6) fa_nil))) (fe_var 3)) (fss_one (fs_ret fe_bl))
(fss_nil))))
(fss_nil))))
(fss_cons (fs_set 7 sc_law.nd (fe_lst fa_nil))
(fss_cons (fs_forApp 8 7 rfl sc_law.nd C_parts (hr.mono (by decide)) (fa_consN (fe_varS 2) fa_nil))
(fss_cons (fs_if (ft_not (ft_val (fe_peek (fe_calls C__law_same mono__law_same (hr.mono (by decide)) (fa_consN (fe_varS 7) (fa_consN (fe_calls C__law_parts mono__law_parts (hr.mono (by decide)) (fa_consN (fe_varS 2) fa_nil)) fa_nil)))))) (fss_one (fs_ret fe_bl))
(fss_nil))
(fss_cons (fs_set 6 sc_law.nd (fe_lst fa_nil))
(fss_cons (fs_for PassesOwn.never rfl (fi_list (fe_varS 7)) (fg_name 8 sc_law.nd)
(fss_one (fs_set 6 sc_law.nd (fe_add (fe_var 6) (fe_calls C_swings mono_swings (hr.mono (by decide)) (fa_consN (fe_varS 8) fa_nil))))))
(fss_cons (fs_if (ft_ne hr.units (fe_rev (fe_sorted Z.sorted (fa_cons (fe_var 6) fa_nil))) (fe_var 3)) (fss_one (fs_ret fe_bl))
(fss_nil))
(fss_cons (fs_par2 9 10 rfl sc_law.nd (fa_cons (fe_calls C__law_track mono__law_track (hr.mono (by decide)) (fa_consN (fe_varS 1) (fa_consN fe_int fa_nil))) (fa_cons (fe_calls C__law_track mono__law_track (hr.mono (by decide)) (fa_consN (fe_varS 1) (fa_consN fe_int fa_nil))) fa_nil)))
(fss_cons (fs_for PassesOwn.never rfl (fi_tup (fe_tup (fa_consN (fe_pow fe_int fe_int) (fa_consN (fe_neg (fe_pow fe_int fe_int)) fa_nil)))) (fg_name 5 sc_law.nd)
(fss_cons (fs_set 11 sc_law.nd (fe_calls C_swings mono_swings (hr.mono (by decide)) (fa_consN (fe_add (fe_add (fe_var 9) (fe_tup (fa_consN (fe_varS 5) fa_nil))) (fe_var 10)) fa_nil)))
(fss_cons (fs_set 6 sc_law.nd (fe_add (fe_calls C_swings mono_swings (hr.mono (by decide)) (fa_consN (fe_add (fe_var 9) (fe_tup (fa_consN (fe_varS 5) fa_nil))) fa_nil)) (fe_calls C_swings mono_swings (hr.mono (by decide)) (fa_consN (fe_add (fe_tup (fa_consN (fe_varS 5) fa_nil)) (fe_var 10)) fa_nil))))
(fss_one (fs_if (ft_ne hr.units (fe_var 11) (fe_rev (fe_sorted Z.sorted (fa_cons (fe_var 6) fa_nil)))) (fss_one (fs_ret fe_bl))
(fss_nil))))))
(fss_one (fs_if (FW.ft (fw_or (ft_ne hr.units (fe_calls C_swings mono_swings (hr.mono (by decide)) (fa_consN (fe_add (fe_var 9) (fe_tup (fa_consN (fe_neg (fe_pow fe_int fe_int)) fa_nil))) fa_nil)) (fe_calls C_swings mono_swings (hr.mono (by decide)) (fa_consN (fe_varS 9) fa_nil))) (fw_or1 (ft_ne hr.units (fe_calls C_swings mono_swings (hr.mono (by decide)) (fa_consN (fe_add (fe_tup (fa_consN (fe_pow fe_int fe_int) fa_nil)) (fe_var 10)) fa_nil)) (fe_calls C_swings mono_swings (hr.mono (by decide)) (fa_consN (fe_varS 10) fa_nil)))))) (fss_one (fs_ret fe_bl))
(fss_nil))))))))))))) : FSs (cxOf CX0 P w K mg base N_law "law" (defScope s_law) f cdv A outer s0 H E).nox (forBody (defBody s_law)) _)
    have hR := (fss_one (fs_ret (fe_and (fe_eq hr.units (fe_listG C_parts (hr.mono (by decide)) Z.list (fa_consN (fe_tup (fa_consN fe_int (fa_consN fe_int (fa_consN fe_int (fa_consN fe_int (fa_consN fe_int (fa_consN fe_int fa_nil))))))) fa_nil)) (fe_lst (fa_consN (fe_tup (fa_consN fe_int (fa_consN fe_int (fa_consN fe_int (fa_consN fe_int fa_nil))))) (fa_consN (fe_tup (fa_consN fe_int (fa_consN fe_int (fa_consN fe_int fa_nil)))) fa_nil)))) (fe_one (fe_eq hr.units (fe_listG C_parts (hr.mono (by decide)) Z.list (fa_consN (fe_tup (fa_consN fe_int fa_nil)) fa_nil)) (fe_lst (fa_consN (fe_tup (fa_consN fe_int fa_nil)) fa_nil)))))) : FSs (cxOf CX0 P w K mg base N_law "law" (defScope s_law) f cdv A outer s0 H E).nox (restBody (defBody s_law)) _)
    refine ⟨_, pss_cons (ps_for PassesOwn.never rfl (pi_list (pe_call FB (hr.mono (by decide)) (by rfl) hmb hkb hbb .nil pass0 (pa_cons (pv 0) (pa_cons pe_int pa_nil)))) (pg_name (i := 1) sc_law.nd rfl (by first | exact .inl rfl | exact .inr rfl) (by first | exact .inl rfl | exact .inr rfl)) hB.pss) hR.pss,
      law_read (m := 8) (ib := 1) (by decide) hB.mono hR.mono hS (by omega) (by decide) (fun n hn => ?_) ?_ q⟩
    all_goals clear hB hR
    · unfold N_law
      -- track, whole
      refine seq_cut fun nx hk => ?_
      walk_at "rd"
      simp only [sp__law_track]
      refine ⟨⟨by decide, by decide, by omega⟩, fun ns n1 hd hn1 => hk _ _ ?_⟩
      clear hk nx
      obtain ⟨d1, d2, d3⟩ := hd
      have d2 : ns.length ≤ 60 := d2
      have d3 : ∀ x ∈ ns, -420 ≤ x ∧ x ≤ 420 := d3
      have il : isI (ns.map PyData.int) := isI_map _
      have ll : (ns.map PyData.int).length ≤ 1000 := by rw [List.length_map]; omega
      have tk : trkOk ns := ⟨d1, d2, fun y hy => by have := d3 y hy; omega⟩
      refine seq_cut fun nx hk => ?_
      walk_at "rd"
      simp only [pureSp, sp_swings, P_swings, F_swings, sp__law_track, sp__law_same, sp__law_parts, P__law_parts, F__law_parts, P_parts, F_parts]
      rw [unI_map]
      refine ⟨⟨il, tk⟩, hk _ _ ?_⟩
      clear hk nx
      -- parted at each highest and lowest place
      refine seq_cut fun nx hk => ?_
      walk_at "rd"
      rw [enumP_of]
      have half : ∀ ms : List Int, (swL ms).length ≤ ms.length := fun ms => by have := (swings_spec ms).half; omega
      refine forGo_inv (I := fun rest ρ n' => n' = n1 ∧ ∃ (k : Nat) (xs : List Int) (z4 z5 z6 : Sl), rest = enumP k xs ∧ xs = ns.drop k ∧ ρ = [.un, .bag, .dat (.tuple (ns.map .int)), .own (.lst ((swL ns).map .int)), z4, z5, z6, .un, .un, .un, .un, .un])
        (fun ρ n' hI => ?hnil) (fun d rr ρ n' kk hI hkk => ?hcons) ⟨rfl, 0, ns, .un, .un, .un, rfl, rfl, rfl⟩
      case hcons =>
        obtain ⟨rfl, k, xs, z4, z5, z6, e, hx, rfl⟩ := hI
        cases xs with
        | nil => cases e
        | cons x xs =>
        have hlt : k < ns.length := by
          rcases Nat.lt_or_ge k ns.length with q | q
          · exact q
          · rw [List.drop_eq_nil_of_le q] at hx; cases hx
        have hdk := hx
        rw [List.drop_eq_getElem_cons hlt] at hx
        injection hx with hx1 hx2
        have hxk : ns[k]? = some x := by rw [List.getElem?_eq_getElem hlt, hx1]
        simp only [enumP, List.cons.injEq] at e
        obtain ⟨rfl, rfl⟩ := e
        have next : ∀ z6 : Sl, kk [.un, .bag, .dat (.tuple (ns.map .int)), .own (.lst ((swL ns).map .int)), .dat (.int (k : Int)), .dat (.int x), z6, .un, .un, .un, .un, .un] n' := fun z6 => hkk _ _ ⟨rfl, k + 1, xs, _, _, z6, rfl, hx2, rfl⟩
        simp only [gdTup, gdCons, gdName, gdNil, List.set_cons_zero, List.set_cons_succ, List.length_cons, List.length_nil, Nat.zero_add, Nat.reduceAdd, true_and]
        refine if_cut fun T U hT hU => ?_
        walk_at "rd"
        refine ⟨ns, rfl, d1, fun m hm hmx => ⟨ns, rfl, d1, fun m' hm' hmn => ⟨[m, m'], rfl, ?_⟩⟩⟩
        by_cases hin : x ∈ [m, m']
        · rw [if_pos (by simpa using hin)]
          refine hT _ _ ?_
          clear hT hU T U
          have hext : (∀ y ∈ ns.take k ++ x :: ns.drop (k + 1), y ≤ x) ∨ ∀ y ∈ ns.take k ++ x :: ns.drop (k + 1), x ≤ y := by
            have ew : ns.take k ++ x :: ns.drop (k + 1) = ns := by rw [hx1, ← List.drop_eq_getElem_cons hlt, List.take_append_drop]
            rw [ew]
            simp only [List.mem_cons, List.not_mem_nil, or_false] at hin
            rcases hin with rfl | rfl
            · exact .inl hmx
            · exact .inr hmn
          have ew : ns = ns.take k ++ x :: ns.drop (k + 1) := by rw [hx1, ← List.drop_eq_getElem_cons hlt, List.take_append_drop]
          have e1 : cutL (ns.map PyData.int) none (some ((k : Int) + 1)) = (ns.take k ++ [x]).map PyData.int := by
            rw [cut_to _ _ (by omega), show ((k : Int) + 1).toNat = k + 1 by omega, ← List.map_take, List.take_add_one, hxk]; rfl
          have e2 : cutL (ns.map PyData.int) (some (k : Int)) none = (x :: ns.drop (k + 1)).map PyData.int := by
            rw [cut_from _ _ (by omega), Int.toNat_natCast, ← List.map_drop, ← hdk, hx2]
          have key : (srt (swL (ns.take k ++ [x]) ++ swL (x :: ns.drop (k + 1)))).reverse = swL ns := by
            refine swL_dsc (fun y hy => ?_) fun q hq => ?_
            · rcases List.mem_append.mp hy with hy | hy
              · exact (swings_spec _).pos y hy
              · exact (swings_spec _).pos y hy
            · rw [G_app, ← G_part hq hext, ← ew]
          have t1 : trkOk (ns.take k ++ [x]) := ⟨by simp, by simp; omega, fun y hy => tk.2.2 y (by
            rw [ew]; simp at hy ⊢; rcases hy with hy | rfl
            · exact .inl hy
            · exact .inr (.inl rfl))⟩
          have t2 : trkOk (x :: ns.drop (k + 1)) := ⟨by simp, by simp; omega, fun y hy => tk.2.2 y (by
            rw [ew]; simp at hy ⊢; rcases hy with rfl | hy
            · exact .inr (.inl rfl)
            · exact .inr (.inr hy))⟩
          have l1 := half (ns.take k ++ [x])
          have l2 := half (x :: ns.drop (k + 1))
          refine seq_cut fun nx hk => ?_
          walk_at "rd"
          simp only [pureSp, sp_swings, P_swings, F_swings, sp__law_track, sp__law_same, sp__law_parts, P__law_parts, F__law_parts, P_parts, F_parts]
          rw [e1, e2, unI_map, unI_map]
          refine ⟨⟨isI_map _, t1⟩, ⟨isI_map _, t2⟩, by rw [List.length_map, List.length_map]; simp only [List.length_append, List.length_cons, List.length_nil, List.length_take, List.length_drop] at l1 l2; omega, hk _ _ ?_⟩
          clear hk nx
          rw [← List.map_append]
          walk_at "rd"
          refine ⟨_, rfl, ?_⟩
          rw [← List.map_reverse, key]
          refine ⟨eqOk_ints _ _, fun _ => next _, fun h => absurd rfl h⟩
        · rw [if_neg (by simpa using hin)]
          refine hU _ _ ?_
          walk_at "rd"
          exact next z6
      obtain ⟨rfl, k, xs, z4, z5, z6, e, hx, rfl⟩ := hI
      refine hk _ _ ?_
      clear hk nx
      -- the parts
      refine seq_cut fun nx hk => ?_
      walk_at "rd"
      refine hk _ _ ?_
      clear hk nx
      refine seq_cut fun nx hk => ?_
      walk_at "rd"
      simp only [pureSp, sp_swings, P_swings, F_swings, sp__law_track, sp__law_same, sp__law_parts, P__law_parts, F__law_parts, P_parts, F_parts]
      rw [unI_map]
      have hpl : (partsL ns).length ≤ 5 := by
        have hcl : (cutsL ns).length ≤ 4 := by
          have := nodup_len (nodup_lt (cuts_lt ns)) (xs := [0, ((ns.idxOf (hiV ns) : Nat) : Int), ((ns.idxOf (loV ns) : Nat) : Int), (ns.length : Int) - 1]) fun x hx => by
            rw [cuts_mem] at hx; simpa using hx
          simpa using this
        unfold partsL
        rw [List.length_append, List.length_map, List.length_zip, List.length_drop]
        split <;> simp <;> omega
      have hpne : partsL ns ≠ [] := by
        intro h
        unfold partsL at h
        obtain ⟨r, e⟩ := cuts_head d1
        rw [e] at h
        cases r <;> simp at h
      have hpp := parts_ok tk
      have hsp := swings_parts d1
      refine ⟨⟨il, tk⟩, appEnd_go (fun ρ => nx ρ n') (by decide) (by simpa using hpne) fun dl => ?_⟩
      simp only [List.set_cons_zero, List.set_cons_succ]
      refine hk _ _ ?_
      clear hk nx
      generalize hps : partsL ns = ps at hpl hpne hpp hsp
      refine seq_cut fun nx hk => ?_
      suffices fin : nx [.un, .bag, .dat (.tuple (ns.map .int)), .own (.lst ((swL ns).map .int)), z4, z5, z6, .own (.lst (ps.map fun p => .tuple (p.map .int))), .dat dl, .un, .un, .un] n' by
        walk_at "rd"
        simp only [pureSp, sp_swings, P_swings, F_swings, sp__law_track, sp__law_same, sp__law_parts, P__law_parts, F__law_parts, P_parts, F_parts]
        rw [unI_map]
        rw [hps]
        refine ⟨⟨il, tk⟩, ?_⟩
        have ok5 : okS 5 (.list (ps.map fun p => .tuple (p.map .int))) := okS_tupsI (by omega) fun p hp => by have := (hpp p hp).2.1; omega
        by_cases h1 : (cutsL ns).length = 1
        · rw [if_pos h1]
          simp only
          refine same_go ok5 ?_
          simp only [vB]
          rw [if_neg (by decide)]
          exact fin
        · rw [if_neg h1]
          simp only
          refine same_go ok5 ?_
          simp only [vB]
          rw [if_neg (by decide)]
          exact fin
      refine hk _ _ ?_
      clear hk nx
      refine seq_cut fun nx hk => ?_
      walk_at "rd"
      refine hk _ _ ?_
      clear hk nx
      refine seq_cut fun nx hk => ?_
      walk_at "rd"
      have hlen : ∀ L : List (List Int), (∀ p ∈ L, trkOk p) → (L.flatMap swL).length ≤ 60 * L.length := by
        intro L
        induction L with
        | nil => intro _; simp
        | cons p L ih =>
          intro h
          have h1 := half p
          have h2 := (h p (by simp)).2.1
          have h3 := ih fun x hx => h x (by simp [hx])
          rw [List.flatMap_cons, List.length_append, List.length_cons]
          omega
      refine forGo_inv (I := fun rest ρ n2 => n2 = n' ∧ ∃ (pre L : List (List Int)) (z8 : Sl), ps = pre ++ L ∧ rest = L.map (fun p => PyData.tuple (p.map .int)) ∧
          ρ = [.un, .bag, .dat (.tuple (ns.map .int)), .own (.lst ((swL ns).map .int)), z4, z5, .own (.lst ((pre.flatMap swL).map .int)), .dat (.list (ps.map fun p => .tuple (p.map .int))), z8, .un, .un, .un])
        (fun ρ n2 hI => ?hnil2) (fun d rr ρ n2 kk hI hkk => ?hcons2) ⟨rfl, [], ps, .dat dl, rfl, rfl, rfl⟩
      case hcons2 =>
        obtain ⟨rfl, pre, L, z8, e, el, rfl⟩ := hI
        cases L with
        | nil => simp at el
        | cons p L =>
        simp only [List.map_cons, List.cons.injEq] at el
        obtain ⟨rfl, rfl⟩ := el
        have tp := hpp p (by rw [e]; simp)
        have hl1 := hlen pre fun x hx => hpp x (by rw [e]; simp [hx])
        have hl2 := half p
        have hl3 := tp.2.1
        have hl4 : pre.length ≤ 5 := by rw [e] at hpl; simp at hpl; omega
        walk_at "rd"
        simp only [pureSp, sp_swings, P_swings, F_swings, sp__law_track, sp__law_same, sp__law_parts, P__law_parts, F__law_parts, P_parts, F_parts]
        rw [unI_map]
        refine ⟨⟨isI_map _, tp⟩, by rw [List.length_map, List.length_map]; omega, hkk _ _ ⟨rfl, pre ++ [p], L, _, by rw [e]; simp, rfl, by simp; rfl⟩⟩
      obtain ⟨rfl, pre, L, z8, e, el, rfl⟩ := hI
      cases L with
      | cons _ _ => simp at el
      | nil =>
      rw [List.append_nil] at e
      subst e
      refine hk _ _ ?_
      clear hk nx
      refine seq_cut fun nx hk => ?_
      walk_at "rd"
      refine ⟨_, rfl, ?_⟩
      rw [← List.map_reverse, hsp]
      refine ⟨eqOk_ints _ _, fun _ => hk _ _ ?_, fun h => absurd rfl h⟩
      clear hk nx
      -- two tracks
      refine seq_cut fun nx hk => ?_
      walk_at "rd"
      simp only [sp__law_track]
      refine ⟨⟨by decide, by decide, by omega⟩, fun as n3 hda hn3 => ⟨⟨by decide, by decide, by omega⟩, fun bs n4 hdb hn4 => ?_⟩⟩
      refine ⟨by simp [noTmps, noTmp], hk _ _ ?_⟩
      clear hk nx
      obtain ⟨a1, a2, a3⟩ := hda
      have a2 : as.length ≤ 29 := a2
      have a3 : ∀ x ∈ as, -358 ≤ x ∧ x ≤ 358 := a3
      obtain ⟨b1, b2, b3⟩ := hdb
      have b2 : bs.length ≤ 29 := b2
      have b3 : ∀ x ∈ bs, -358 ≤ x ∧ x ≤ 358 := b3
      have tka : trkOk as := ⟨a1, by omega, fun x hx => by have := a3 x hx; omega⟩
      have tkb : trkOk bs := ⟨b1, by omega, fun x hx => by have := b3 x hx; omega⟩
      refine seq_cut fun nx hk => ?_
      walk_at "rd"
      have hp5 : CPow 10 5 := ⟨by decide, by decide, by decide⟩
      refine ⟨hp5, hp5, forGo_inv (I := fun rest ρ n2 => n2 = n4 ∧ ∃ z5 z6 z11 : Sl, (∀ d ∈ rest, ∃ h : Int, d = .int h ∧ (h = 100000 ∨ h = -100000)) ∧
          ρ = [.un, .bag, .dat (.tuple (ns.map .int)), .own (.lst ((swL ns).map .int)), z4, z5, z6, .dat (.list (ps.map fun p => .tuple (p.map .int))), z8, .dat (.tuple (as.map .int)), .dat (.tuple (bs.map .int)), z11])
        (fun ρ n2 hI => ?hnil3) (fun d rr ρ n2 kk hI hkk => ?hcons3) ⟨rfl, _, _, _, fun d hd => ?hst, rfl⟩⟩
      case hst =>
        simp only [List.mem_cons, List.not_mem_nil, or_false] at hd
        rcases hd with rfl | rfl
        · exact ⟨_, rfl, .inl (by decide)⟩
        · exact ⟨_, rfl, .inr (by decide)⟩
      case hcons3 =>
        obtain ⟨rfl, z5, z6, z11, hr, rfl⟩ := hI
        obtain ⟨h, rfl, hh⟩ := hr d (by simp)
        have th : trkOk [h] := ⟨by simp, by simp, fun x hx => by simp at hx; omega⟩
        have tj : trkOk (as ++ [h] ++ bs) := ⟨by simp; omega, by simp; omega, fun x hx => by
          simp only [List.mem_append, List.mem_singleton] at hx
          rcases hx with (hx | rfl) | hx
          · exact tka.2.2 x hx
          · omega
          · exact tkb.2.2 x hx⟩
        have t1 : trkOk (as ++ [h]) := ⟨by simp, by simp; omega, fun x hx => tj.2.2 x (List.mem_append_left _ hx)⟩
        have t2 : trkOk ([h] ++ bs) := ⟨by simp, by simp; omega, fun x hx => tj.2.2 x (by rw [List.append_assoc]; exact List.mem_append_right _ hx)⟩
        have hext : (∀ y ∈ as ++ h :: bs, y ≤ h) ∨ ∀ y ∈ as ++ h :: bs, h ≤ y := by
          rcases hh with rfl | rfl
          · refine .inl fun y hy => ?_
            simp only [List.mem_append, List.mem_cons] at hy
            rcases hy with hy | rfl | hy
            · have := a3 y hy; omega
            · omega
            · have := b3 y hy; omega
          · refine .inr fun y hy => ?_
            simp only [List.mem_append, List.mem_cons] at hy
            rcases hy with hy | rfl | hy
            · have := a3 y hy; omega
            · omega
            · have := b3 y hy; omega
        have key : (srt (swL (as ++ [h]) ++ swL ([h] ++ bs))).reverse = swL (as ++ [h] ++ bs) := by
          refine swL_dsc (fun y hy => ?_) fun q hq => ?_
          · rcases List.mem_append.mp hy with hy | hy
            · exact (swings_spec _).pos y hy
            · exact (swings_spec _).pos y hy
          · rw [G_app, List.append_assoc]
            exact G_part hq hext
        have l1 := half (as ++ [h])
        have l2 := half ([h] ++ bs)
        have i1 : [PyData.int h] = [h].map PyData.int := rfl
        simp only [gdName, List.set_cons_zero, List.set_cons_succ]
        refine seq_cut fun nx2 hk2 => ?_
        walk_at "rd"
        simp only [pureSp, sp_swings, P_swings, F_swings, sp__law_track, sp__law_same, sp__law_parts, P__law_parts, F__law_parts, P_parts, F_parts]
        rw [i1, ← List.map_append, ← List.map_append, unI_map]
        refine ⟨by rw [List.length_map]; omega, by rw [List.length_map, List.length_map, List.length_append]; simp; omega, ⟨isI_map _, tj⟩, hk2 _ _ ?_⟩
        clear hk2 nx2
        refine seq_cut fun nx2 hk2 => ?_
        walk_at "rd"
        simp only [pureSp, sp_swings, P_swings, F_swings, sp__law_track, sp__law_same, sp__law_parts, P__law_parts, F__law_parts, P_parts, F_parts]
        rw [i1, show PyData.int h :: bs.map PyData.int = ([h] ++ bs).map PyData.int from rfl, ← List.map_append, unI_map, unI_map]
        simp only [List.length_append, List.length_cons, List.length_nil] at l1 l2
        refine ⟨by rw [List.length_map]; omega, ⟨isI_map _, t1⟩, by rw [List.length_map]; omega, ⟨isI_map _, t2⟩, by rw [List.length_map, List.length_map]; omega, hk2 _ _ ?_⟩
        clear hk2 nx2
        rw [← List.map_append]
        walk_at "rd"
        refine ⟨_, rfl, ?_⟩
        have key2 : (srt (swL (as ++ [h]) ++ swL (h :: bs))).reverse = swL (as ++ [h] ++ bs) := key
        rw [← List.map_reverse, key2]
        exact ⟨eqOk_ints _ _, fun _ => hkk _ _ ⟨rfl, _, _, _, fun d hd => hr d (by simp [hd]), rfl⟩, fun h => absurd rfl h⟩
      obtain ⟨rfl, z5, z6, z11, hr, rfl⟩ := hI
      refine hk _ _ ?_
      clear hk nx
      walk_at "rd"
      simp only [pureSp, sp_swings, P_swings, F_swings, sp__law_track, sp__law_same, sp__law_parts, P__law_parts, F__law_parts, P_parts, F_parts]
      have ea : as.map PyData.int ++ [PyData.int (-10 ^ 5)] = (as ++ [-100000]).map PyData.int := by rw [List.map_append]; rfl
      have eb : PyData.int (10 ^ 5) :: bs.map PyData.int = (100000 :: bs).map PyData.int := rfl
      rw [ea, eb, unI_map, unI_map, unI_map, unI_map]
      rw [swL_lowend (lo := -100000) (ns := as) (fun x hx => by have := a3 x hx; omega), swL_highstart (hi := 100000) (ns := bs) (fun x hx => by have := b3 x hx; omega)]
      have t1 : trkOk (as ++ [-100000]) := ⟨by simp, by simp; omega, fun x hx => by
        rcases List.mem_append.mp hx with hx | hx
        · exact tka.2.2 x hx
        · simp at hx; omega⟩
      have t2 : trkOk (100000 :: bs) := ⟨by simp, by simp; omega, fun x hx => by
        rcases List.mem_cons.mp hx with hx | hx
        · omega
        · exact tkb.2.2 x hx⟩
      exact ⟨hp5, by rw [List.length_map]; omega, ⟨isI_map _, t1⟩, ⟨isI_map _, tka⟩, eqOk_ints _ _, fun _ => ⟨hp5, by rw [List.length_map]; omega, ⟨isI_map _, t2⟩, ⟨isI_map _, tkb⟩, eqOk_ints _ _, fun _ => rfl, fun h => absurd rfl h⟩, fun h => absurd rfl h⟩
    · unfold N_law lawEnds
      walk_at "rd"
      simp only [pureSp, sp_swings, P_swings, F_swings, sp__law_track, sp__law_same, sp__law_parts, P__law_parts, F__law_parts, P_parts, F_parts]
      have eu : DL.unI [PyData.int 0, PyData.int 5, PyData.int 3, PyData.int 6, PyData.int 1, PyData.int 4] = [0, 5, 3, 6, 1, 4] := rfl
      have eu7 : DL.unI [PyData.int 7] = [7] := rfl
      rw [eu, eu7]
      have e1 : partsL [0, 5, 3, 6, 1, 4] = [[0, 5, 3, 6], [6, 1, 4]] := by decide +kernel
      have e2 : partsL [7] = [[7]] := by decide +kernel
      rw [e1, e2]
      have i6 : isI [PyData.int 0, PyData.int 5, PyData.int 3, PyData.int 6, PyData.int 1, PyData.int 4] := ⟨[0, 5, 3, 6, 1, 4], rfl⟩
      have t6 : trkOk [0, 5, 3, 6, 1, 4] := ⟨by decide, by decide, by decide⟩
      exact ⟨⟨i6, t6⟩, eqOk_tupsI [[0, 5, 3, 6], [6, 1, 4]] _ rfl [[0, 5, 3, 6], [6, 1, 4]] _ rfl, fun _ => ⟨⟨⟨[7], rfl⟩, ⟨by decide, by decide, by decide⟩⟩, eqOk_tupsI [[7]] _ rfl [[7]] _ rfl, fun _ => trivial, fun h => absurd rfl h⟩, fun h => absurd rfl h⟩

end
theorem all_mk {l : PySem.W.OpenLaw} {w : World} {K : PySem.W.Frag} {h : Heap} {mg : Str → Option Value} {fa : Addr} (X : K.In h) (G : h.Ns mainGlobals mg) (hfa : mg "law" = some (.ref fa))
    {f0 : Addr} {od0 an0 : Option Addr} {sl0 : Array (Option Value)} {oc0 kV0 dc0 pm0 cd0 ct0 : Value}
    (a0 : PySem.W.nsIn K mainGlobals "in_range" = some (some (.ref f0))) (l0 : K.lookup f0 = some ⟨oc0, od0, .func (PySem.W.fnOf "in_range" "in_range" (defArgs s_in_range) (defBody s_in_range) (defScope s_in_range) .none kV0 dc0 pm0 an0 cd0 ct0), sl0⟩) (c0 : PySem.W.codeIn K cd0 "in_range" = true) (k0 : PySem.W.keepIn K (.ref f0) = true)
    {f1 : Addr} {od1 an1 : Option Addr} {sl1 : Array (Option Value)} {oc1 kV1 dc1 pm1 cd1 ct1 : Value}
    (a1 : PySem.W.nsIn K mainGlobals "is_height" = some (some (.ref f1))) (l1 : K.lookup f1 = some ⟨oc1, od1, .func (PySem.W.fnOf "is_height" "is_height" (defArgs s_is_height) (defBody s_is_height) (defScope s_is_height) .none kV1 dc1 pm1 an1 cd1 ct1), sl1⟩) (c1 : PySem.W.codeIn K cd1 "is_height" = true) (k1 : PySem.W.keepIn K (.ref f1) = true)
    {f2 : Addr} {od2 an2 : Option Addr} {sl2 : Array (Option Value)} {oc2 kV2 dc2 pm2 cd2 ct2 : Value}
    (a2 : PySem.W.nsIn K mainGlobals "is_track" = some (some (.ref f2))) (l2 : K.lookup f2 = some ⟨oc2, od2, .func (PySem.W.fnOf "is_track" "is_track" (defArgs s_is_track) (defBody s_is_track) (defScope s_is_track) .none kV2 dc2 pm2 an2 cd2 ct2), sl2⟩) (c2 : PySem.W.codeIn K cd2 "is_track" = true) (k2 : PySem.W.keepIn K (.ref f2) = true)
    {f3 : Addr} {od3 an3 : Option Addr} {sl3 : Array (Option Value)} {oc3 kV3 dc3 pm3 cd3 ct3 : Value}
    (a3 : PySem.W.nsIn K mainGlobals "check_track" = some (some (.ref f3))) (l3 : K.lookup f3 = some ⟨oc3, od3, .func (PySem.W.fnOf "check_track" "check_track" (defArgs s_check_track) (defBody s_check_track) (defScope s_check_track) .none kV3 dc3 pm3 an3 cd3 ct3), sl3⟩) (c3 : PySem.W.codeIn K cd3 "check_track" = true) (k3 : PySem.W.keepIn K (.ref f3) = true)
    {f4 : Addr} {od4 an4 : Option Addr} {sl4 : Array (Option Value)} {oc4 kV4 dc4 pm4 cd4 ct4 : Value}
    (a4 : PySem.W.nsIn K mainGlobals "runs_of" = some (some (.ref f4))) (l4 : K.lookup f4 = some ⟨oc4, od4, .func (PySem.W.fnOf "runs_of" "runs_of" (defArgs s_runs_of) (defBody s_runs_of) (defScope s_runs_of) .none kV4 dc4 pm4 an4 cd4 ct4), sl4⟩) (c4 : PySem.W.codeIn K cd4 "runs_of" = true) (k4 : PySem.W.keepIn K (.ref f4) = true)
    {f5 : Addr} {od5 an5 : Option Addr} {sl5 : Array (Option Value)} {oc5 kV5 dc5 pm5 cd5 ct5 : Value}
    (a5 : PySem.W.nsIn K mainGlobals "swings_of" = some (some (.ref f5))) (l5 : K.lookup f5 = some ⟨oc5, od5, .func (PySem.W.fnOf "swings_of" "swings_of" (defArgs s_swings_of) (defBody s_swings_of) (defScope s_swings_of) .none kV5 dc5 pm5 an5 cd5 ct5), sl5⟩) (c5 : PySem.W.codeIn K cd5 "swings_of" = true) (k5 : PySem.W.keepIn K (.ref f5) = true)
    {f6 : Addr} {od6 an6 : Option Addr} {sl6 : Array (Option Value)} {oc6 kV6 dc6 pm6 cd6 ct6 : Value}
    (a6 : PySem.W.nsIn K mainGlobals "swings" = some (some (.ref f6))) (l6 : K.lookup f6 = some ⟨oc6, od6, .func (PySem.W.fnOf "swings" "swings" (defArgs s_swings) (defBody s_swings) (defScope s_swings) .none kV6 dc6 pm6 an6 cd6 ct6), sl6⟩) (c6 : PySem.W.codeIn K cd6 "swings" = true) (k6 : PySem.W.keepIn K (.ref f6) = true)
    {f7 : Addr} {od7 an7 : Option Addr} {sl7 : Array (Option Value)} {oc7 kV7 dc7 pm7 cd7 ct7 : Value}
    (a7 : PySem.W.nsIn K mainGlobals "parts" = some (some (.ref f7))) (l7 : K.lookup f7 = some ⟨oc7, od7, .func (PySem.W.fnOf "parts" "parts" (defArgs s_parts) (defBody s_parts) (defScope s_parts) .none kV7 dc7 pm7 an7 cd7 ct7), sl7⟩) (c7 : PySem.W.codeIn K cd7 "parts" = true) (k7 : PySem.W.keepIn K (.ref f7) = true)
    {f8 : Addr} {od8 an8 : Option Addr} {sl8 : Array (Option Value)} {oc8 kV8 dc8 pm8 cd8 ct8 : Value}
    (a8 : PySem.W.nsIn K mainGlobals "_law_well" = some (some (.ref f8))) (l8 : K.lookup f8 = some ⟨oc8, od8, .func (PySem.W.fnOf "_law_well" "_law_well" (defArgs s__law_well) (defBody s__law_well) (defScope s__law_well) .none kV8 dc8 pm8 an8 cd8 ct8), sl8⟩) (c8 : PySem.W.codeIn K cd8 "_law_well" = true) (k8 : PySem.W.keepIn K (.ref f8) = true)
    {f9 : Addr} {od9 an9 : Option Addr} {sl9 : Array (Option Value)} {oc9 kV9 dc9 pm9 cd9 ct9 : Value}
    (a9 : PySem.W.nsIn K mainGlobals "_law_take" = some (some (.ref f9))) (l9 : K.lookup f9 = some ⟨oc9, od9, .func (PySem.W.fnOf "_law_take" "_law_take" (defArgs s__law_take) (defBody s__law_take) (defScope s__law_take) .none kV9 dc9 pm9 an9 cd9 ct9), sl9⟩) (c9 : PySem.W.codeIn K cd9 "_law_take" = true) (k9 : PySem.W.keepIn K (.ref f9) = true)
    {f10 : Addr} {od10 an10 : Option Addr} {sl10 : Array (Option Value)} {oc10 kV10 dc10 pm10 cd10 ct10 : Value}
    (a10 : PySem.W.nsIn K mainGlobals "_law_bags" = some (some (.ref f10))) (l10 : K.lookup f10 = some ⟨oc10, od10, .func (PySem.W.fnOf "_law_bags" "_law_bags" (defArgs s__law_bags) (defBody s__law_bags) (defScope s__law_bags) .none kV10 dc10 pm10 an10 cd10 ct10), sl10⟩) (c10 : PySem.W.codeIn K cd10 "_law_bags" = true) (k10 : PySem.W.keepIn K (.ref f10) = true)
    {f11 : Addr} {od11 an11 : Option Addr} {sl11 : Array (Option Value)} {oc11 kV11 dc11 pm11 cd11 ct11 : Value}
    (a11 : PySem.W.nsIn K mainGlobals "_law_same" = some (some (.ref f11))) (l11 : K.lookup f11 = some ⟨oc11, od11, .func (PySem.W.fnOf "_law_same" "_law_same" (defArgs s__law_same) (defBody s__law_same) (defScope s__law_same) .none kV11 dc11 pm11 an11 cd11 ct11), sl11⟩) (c11 : PySem.W.codeIn K cd11 "_law_same" = true) (k11 : PySem.W.keepIn K (.ref f11) = true)
    {f12 : Addr} {od12 an12 : Option Addr} {sl12 : Array (Option Value)} {oc12 kV12 dc12 pm12 cd12 ct12 : Value}
    (a12 : PySem.W.nsIn K mainGlobals "_law_track" = some (some (.ref f12))) (l12 : K.lookup f12 = some ⟨oc12, od12, .func (PySem.W.fnOf "_law_track" "_law_track" (defArgs s__law_track) (defBody s__law_track) (defScope s__law_track) .none kV12 dc12 pm12 an12 cd12 ct12), sl12⟩) (c12 : PySem.W.codeIn K cd12 "_law_track" = true) (k12 : PySem.W.keepIn K (.ref f12) = true)
    {f13 : Addr} {od13 an13 : Option Addr} {sl13 : Array (Option Value)} {oc13 kV13 dc13 pm13 cd13 ct13 : Value}
    (a13 : PySem.W.nsIn K mainGlobals "_law_parts" = some (some (.ref f13))) (l13 : K.lookup f13 = some ⟨oc13, od13, .func (PySem.W.fnOf "_law_parts" "_law_parts" (defArgs s__law_parts) (defBody s__law_parts) (defScope s__law_parts) .none kV13 dc13 pm13 an13 cd13 ct13), sl13⟩) (c13 : PySem.W.codeIn K cd13 "_law_parts" = true) (k13 : PySem.W.keepIn K (.ref f13) = true)
    {f14 : Addr} {od14 an14 : Option Addr} {sl14 : Array (Option Value)} {oc14 kV14 dc14 pm14 cd14 ct14 : Value}
    (a14 : PySem.W.nsIn K mainGlobals "law" = some (some (.ref f14))) (l14 : K.lookup f14 = some ⟨oc14, od14, .func (PySem.W.fnOf "law" "law" (defArgs s_law) (defBody s_law) (defScope s_law) .none kV14 dc14 pm14 an14 cd14 ct14), sl14⟩) (c14 : PySem.W.codeIn K cd14 "law" = true) (k14 : PySem.W.keepIn K (.ref f14) = true)
    (z_all : PySem.W.nsIn K mainGlobals "all" = some none)
    (z_bool : PySem.W.nsIn K mainGlobals "bool" = some none)
    (z_enumerate : PySem.W.nsIn K mainGlobals "enumerate" = some none)
    (z_int : PySem.W.nsIn K mainGlobals "int" = some none)
    (z_isinstance : PySem.W.nsIn K mainGlobals "isinstance" = some none)
    (z_len : PySem.W.nsIn K mainGlobals "len" = some none)
    (z_list : PySem.W.nsIn K mainGlobals "list" = some none)
    (z_max : PySem.W.nsIn K mainGlobals "max" = some none)
    (z_min : PySem.W.nsIn K mainGlobals "min" = some none)
    (z_range : PySem.W.nsIn K mainGlobals "range" = some none)
    (z_set : PySem.W.nsIn K mainGlobals "set" = some none)
    (z_sorted : PySem.W.nsIn K mainGlobals "sorted" = some none)
    (z_str : PySem.W.nsIn K mainGlobals "str" = some none)
    (z_tuple : PySem.W.nsIn K mainGlobals "tuple" = some none)
    (z_zip : PySem.W.nsIn K mainGlobals "zip" = some none)
    (z_MOST_HEIGHT : ∃ t, mg "MOST_HEIGHT" = some (.int (1000000) t))
    {t_MOST_HEIGHTS : _} (z_MOST_HEIGHTS : PySem.W.nsIn K mainGlobals "MOST_HEIGHTS" = some (some (.int (60) t_MOST_HEIGHTS)))
    : ∃ fd : FuncData, (∀ (s : Shared) (v : Value), BindsTo s fd ⟨[v], []⟩ [("script", v)]) ∧ ∀ base : Heap, K.In base → base.Ns mainGlobals mg → FnOk l.prog w K mg base CX0 9 fa fd ["script"] (spLaw K) := by
  have e := hfa.symm.trans (PySem.W.mg_of X G a14)
  cases e
  have Z : Glb mg := ⟨z_MOST_HEIGHT, ⟨_, PySem.W.mg_of X G z_MOST_HEIGHTS⟩, PySem.W.mg_none_of X G z_all, PySem.W.mg_none_of X G z_bool, PySem.W.mg_none_of X G z_enumerate, PySem.W.mg_none_of X G z_int, PySem.W.mg_none_of X G z_isinstance, PySem.W.mg_none_of X G z_len, PySem.W.mg_none_of X G z_list, PySem.W.mg_none_of X G z_max, PySem.W.mg_none_of X G z_min, PySem.W.mg_none_of X G z_range, PySem.W.mg_none_of X G z_set, PySem.W.mg_none_of X G z_sorted, PySem.W.mg_none_of X G z_str, PySem.W.mg_none_of X G z_tuple, PySem.W.mg_none_of X G z_zip⟩
  have F_in_range := fun_mk (st := s_in_range) l0 c0 k0
  have F_is_height := fun_mk (st := s_is_height) l1 c1 k1
  have F_is_track := fun_mk (st := s_is_track) l2 c2 k2
  have F_check_track := fun_mk (st := s_check_track) l3 c3 k3
  have F_runs_of := fun_mk (st := s_runs_of) l4 c4 k4
  have F_swings_of := fun_mk (st := s_swings_of) l5 c5 k5
  have F_swings := fun_mk (st := s_swings) l6 c6 k6
  have F_parts := fun_mk (st := s_parts) l7 c7 k7
  have F__law_well := fun_mk (st := s__law_well) l8 c8 k8
  have F__law_take := fun_mk (st := s__law_take) l9 c9 k9
  have F__law_bags := fun_mk (st := s__law_bags) l10 c10 k10
  have F__law_same := fun_mk (st := s__law_same) l11 c11 k11
  have F__law_track := fun_mk (st := s__law_track) l12 c12 k12
  have F__law_parts := fun_mk (st := s__law_parts) l13 c13 k13
  have F_law := fun_mk (st := s_law) l14 c14 k14
  have m_in_range := PySem.W.mg_of X G a0
  have m_is_height := PySem.W.mg_of X G a1
  have m_is_track := PySem.W.mg_of X G a2
  have m_check_track := PySem.W.mg_of X G a3
  have m_runs_of := PySem.W.mg_of X G a4
  have m_swings_of := PySem.W.mg_of X G a5
  have m_swings := PySem.W.mg_of X G a6
  have m_parts := PySem.W.mg_of X G a7
  have m__law_well := PySem.W.mg_of X G a8
  have m__law_take := PySem.W.mg_of X G a9
  have m__law_bags := PySem.W.mg_of X G a10
  have m__law_same := PySem.W.mg_of X G a11
  have m__law_track := PySem.W.mg_of X G a12
  have m__law_parts := PySem.W.mg_of X G a13
  have m_law := PySem.W.mg_of X G a14
  refine ⟨PySem.W.fnOf "law" "law" (defArgs s_law) (defBody s_law) (defScope s_law) .none kV14 dc14 pm14 an14 cd14 ct14, fun s v => .of_eq rfl, fun base _ _ => ?_⟩
  have C_in_range := cal_in_range (P := l.prog) (w := w) (base := base) F_in_range m_in_range Z
  have C_is_height := cal_is_height (P := l.prog) (w := w) (base := base) F_is_height m_is_height Z C_in_range
  have C_is_track := cal_is_track (P := l.prog) (w := w) (base := base) F_is_track m_is_track Z C_is_height
  have C_check_track := cal_check_track (P := l.prog) (w := w) (base := base) F_check_track m_check_track Z C_is_track
  have C_runs_of := cal_runs_of (P := l.prog) (w := w) (base := base) F_runs_of m_runs_of Z
  have C_swings_of := cal_swings_of (P := l.prog) (w := w) (base := base) F_swings_of m_swings_of Z C_runs_of
  have C_swings := cal_swings (P := l.prog) (w := w) (base := base) F_swings m_swings Z C_swings_of C_check_track
  have C_parts := cal_parts (P := l.prog) (w := w) (base := base) F_parts m_parts Z C_check_track
  have C__law_well := cal__law_well (P := l.prog) (w := w) (base := base) F__law_well m__law_well Z
  have C__law_take := cal__law_take (P := l.prog) (w := w) (base := base) F__law_take m__law_take Z
  have C__law_bags := cal__law_bags (P := l.prog) (w := w) (base := base) F__law_bags m__law_bags Z C__law_well
  have C__law_same := cal__law_same (P := l.prog) (w := w) (base := base) F__law_same m__law_same Z
  have C__law_track := cal__law_track (P := l.prog) (w := w) (base := base) F__law_track m__law_track Z C__law_take
  have C__law_parts := cal__law_parts (P := l.prog) (w := w) (base := base) F__law_parts m__law_parts Z
  exact ok_law F_law Z C__law_bags C_swings C__law_track C__law_same C__law_parts C_parts
end K
open PySem PySem.W PyProof.Rows
set_option maxHeartbeats 0 in
theorem PySem.Challenge.cw_climbsums_k09_whole_parted_at_highest_an_holds : PySem.Challenge.rw_climbsums_k09_whole_parted_at_highest_an.Holds := by
  w_on; o_law; k_head; (case hw => w_witness2)
  k_fill
  refine DL.walk_ofX (l := PySem.Challenge.rw_climbsums_k09_whole_parted_at_highest_an) (n := 63) (k := 9) (x := "script") (CX := fun _ => L2.CX0) (sp := fun w => DL.spLaw _) rfl (by decide) rfl ⟨rfl, by decide, by decide⟩ (fun w h Y => PySem.W.kIn_of Y) ?F (fun _ _ a ns hl _ hS => ⟨a, ns, rfl, hS, hl, fun _ => rfl⟩) (fun _ _ _ _ _ h => h)
  case F =>
    intro w mg fa h KX G XX hmg
    have z_MOST_HEIGHT : ∃ t, mg "MOST_HEIGHT" = some (.int (1000000) t) := DL.loose_int XX (by simp)
    refine' K.all_mk KX G hmg ?a0 ?l0 ?c0 ?k0 ?a1 ?l1 ?c1 ?k1 ?a2 ?l2 ?c2 ?k2 ?a3 ?l3 ?c3 ?k3 ?a4 ?l4 ?c4 ?k4 ?a5 ?l5 ?c5 ?k5 ?a6 ?l6 ?c6 ?k6 ?a7 ?l7 ?c7 ?k7 ?a8 ?l8 ?c8 ?k8 ?a9 ?l9 ?c9 ?k9 ?a10 ?l10 ?c10 ?k10 ?a11 ?l11 ?c11 ?k11 ?a12 ?l12 ?c12 ?k12 ?a13 ?l13 ?c13 ?k13 ?a14 ?l14 ?c14 ?k14 ?z_all ?z_bool ?z_enumerate ?z_int ?z_isinstance ?z_len ?z_list ?z_max ?z_min ?z_range ?z_set ?z_sorted ?z_str ?z_tuple ?z_zip z_MOST_HEIGHT ?z_MOST_HEIGHTS
    (case a0 => k_is); (case l0 => k_is); (case c0 => k_is); (case k0 => k_is); (case a1 => k_is); (case l1 => k_is); (case c1 => k_is); (case k1 => k_is); (case a2 => k_is); (case l2 => k_is); (case c2 => k_is); (case k2 => k_is); (case a3 => k_is); (case l3 => k_is); (case c3 => k_is); (case k3 => k_is); (case a4 => k_is); (case l4 => k_is); (case c4 => k_is); (case k4 => k_is); (case a5 => k_is); (case l5 => k_is); (case c5 => k_is); (case k5 => k_is); (case a6 => k_is); (case l6 => k_is); (case c6 => k_is); (case k6 => k_is); (case a7 => k_is); (case l7 => k_is); (case c7 => k_is); (case k7 => k_is); (case a8 => k_is); (case l8 => k_is); (case c8 => k_is); (case k8 => k_is); (case a9 => k_is); (case l9 => k_is); (case c9 => k_is); (case k9 => k_is); (case a10 => k_is); (case l10 => k_is); (case c10 => k_is); (case k10 => k_is); (case a11 => k_is); (case l11 => k_is); (case c11 => k_is); (case k11 => k_is); (case a12 => k_is); (case l12 => k_is); (case c12 => k_is); (case k12 => k_is); (case a13 => k_is); (case l13 => k_is); (case c13 => k_is); (case k13 => k_is); (case a14 => k_is); (case l14 => k_is); (case c14 => k_is); (case k14 => k_is); (case z_all => k_is); (case z_bool => k_is); (case z_enumerate => k_is); (case z_int => k_is); (case z_isinstance => k_is); (case z_len => k_is); (case z_list => k_is); (case z_max => k_is); (case z_min => k_is); (case z_range => k_is); (case z_set => k_is); (case z_sorted => k_is); (case z_str => k_is); (case z_tuple => k_is); (case z_zip => k_is); (case z_MOST_HEIGHTS => k_is)

