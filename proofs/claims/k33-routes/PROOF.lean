import PyProof.Rows.All
import Wide.All
import OpenK.AllK
import Wide.FinOn
import HandS.ForMost
import HandS.TupAny
import HandS.TupMul
import HandS.Conv
import HandS.Zip
import HandS.IsInst
import HandS.Wide
import HandS.WideBits
import HandS.Defaults
import HandS.Deep
import HandS.Strs
import HandS.Style
import HandS.Rev
import HandS.RevRange
import HandS.SortInts
import HandS.Flow
import KE.KDictCopyH
import HandS.Walk
import KE.GoesEnum
import KE.GoesMore
import PyProof.FitsInt
import PyProof.ReprRoads
import HandS.SetFor
import HandS.DictComp
import HandS.EndBits
import PyProof.SeqIndex
import KE.KDictPairs
import KE.KEqDict
import HandS.TupSets
import KE.SortData
import HandS.Star
import HandS.More
import KE.KDictKeyed
import KE.KDictDisplayH
import KE.KDictWalk
import KE.KDictSum
import KE.KRevSl
import PySem.Challenge.RW_deadlane_k33_routes
set_option Elab.async false
set_option linter.all false
set_option maxRecDepth 100000
set_option autoImplicit false
set_option maxHeartbeats 1000000
/-! tuples that are known to be plain objects (their methods are found on the type) -/
namespace DL
open PySem PySem.Spec L2

/-- the object of a new tuple -/
abbrev tob (its : List Value) : Obj := { cls := .type "tuple", data := .seq its.toArray }
/-- a tuple at a, its object plain -/
def TupZ (H : Hp) (a : Addr) (xs : List V) : Prop := ∃ ob : Obj, ob.dict = none ∧ H a = some (.frz ob (.tup xs))
theorem TupZ.t {K : PySem.W.Frag} {H : Hp} {a : Addr} {xs : List V} (h : TupZ H a xs) : SqT K H a xs := let ⟨ob, _, e⟩ := h; .inl (.inr ⟨ob, e⟩)
/-- what a new tuple leaves -/
def NewZ (H : Hp) (xs : List V) (Q : VK) : Prop := ∀ (p : Addr) (ob : Obj), H p = none → ob.dict = none → Q (.ref p) (upd H p (.frz ob (.tup xs)))
section
variable {X : Cx} {pins : List (Addr × Obj)} {σ : L2.St} {H : Hp} {s : Shared}
theorem laidZ {its : List Value} {xs : List V} {Q : VK} {t' : Nat} (I : Inv X pins σ H s) (r : Vals xs its) (hz : xs.length ≤ sizeLine) (q : NewZ H xs Q) :
    EP X pins σ Q (.ref s.heap.objs.size) { s with heap := s.heap.push (tob its), toks := t' } := by
  have hn : H s.heap.objs.size = none := I.hok.fresh (Nat.le_refl _)
  have hnew : (s.heap.push (tob its)).get? s.heap.objs.size = some (tob its) := Heap.get?_push_size _ rfl
  refine ⟨V.ref s.heap.objs.size, _, I.laid (o := .frz (tob its) (.tup xs)) (fun b u e => Heap.get?_push_of_some _ e) (Nat.le_refl _) ⟨hnew, hz, its, r, _, hnew, rfl, 0, rfl⟩, rfl, q _ (tob its) hn rfl⟩
end
def tTupZ (t : TA) : TE := fun σ H Q => t σ H fun xs H1 => xs.length ≤ sizeLine ∧ NewZ H1 xs Q
section
variable {X : Cx} {es : List Expr} {t : TA} {pos : Pos}
theorem pe_tupZ {x1} (h : PA X es t) : PE X (.Tuple es x1 pos) (tTupZ t) := ⟨fun pins s σ H Q I hq =>
  wpAny_Tuple_spliced (thn (h.run pos pins s σ H _ I hq) fun us s1 ⟨xs, H1, I1, r, z, q⟩ => ⟨by rw [← r.length]; exact z, laidZ I1 r z q⟩)⟩
/-- t[lo:hi] -/
def rSlZ (K : PySem.W.Frag) : V → Option Int → Option Int → Hp → VK → Prop := fun x lo hi H Q => ∃ a xs, x = .ref a ∧ SqT K H a xs ∧
  (HT.sIx xs.length 0 lo = 0 ∧ HT.sIx xs.length xs.length hi = xs.length → Q (.ref a) H) ∧ NewZ H (cutV xs lo hi) Q
theorem sl_tupZ : SlR X (rSlZ X.K) := fun pins s σ H x v vl vu lo hi sl Q I rx hs pl pu h => by
  obtain ⟨a, xs, rfl, hx, q1, q2⟩ := h
  cases rx
  obtain ⟨its, r, ht, hz⟩ := I.tuple hx
  have hl : its.toArray.size = xs.length := by rw [List.size_toArray]; exact r.length.symm
  refine ⟨"tuple", _, PyProof.Rows.slot_tuple_getitem.lookup, ht.typeIs, ?_⟩
  by_cases hw : HT.sIx xs.length 0 lo = 0 ∧ HT.sIx xs.length xs.length hi = xs.length
  · exact getItem_tuple_whole ht hs pl pu (by rw [hl]; exact hw) ⟨V.ref a, H, I, rfl, q1 hw⟩
  · refine HT.getItem_tuple_cut ht hs pl pu (by rw [hl]; exact hw) ?_ (by rw [hl]; exact hz)
    rw [hl]
    exact laidZ (t' := s.toks) I ((r.drop _).take _) (Nat.le_trans (cutV_length xs lo hi) hz) q2
/-- t + u -/
def rCatZ (K : PySem.W.Frag) : R2 := fun x y H Q => ∃ a b xs ys, x = .ref a ∧ y = .ref b ∧ SqT K H a xs ∧ SqT K H b ys ∧ xs.length + ys.length ≤ sizeLine ∧
  (xs = [] → Q (.ref b) H) ∧ (ys = [] → Q (.ref a) H) ∧ NewZ H (xs ++ ys) Q
theorem op_catZ : OpR X (binaryOp .Add) (rCatZ X.K) := fun pins s σ H x y v u Q I rx ry h => by
  obtain ⟨a, b, xs, ys, rfl, rfl, ha, hb, hz, q0, q1, q2⟩ := h
  cases rx
  cases ry
  obtain ⟨its, r, ht, _⟩ := I.tuple ha
  obtain ⟨jts, r', ht', _⟩ := I.tuple hb
  by_cases hx : xs = []
  · subst hx
    cases r
    exact cat_tup0 ht ht' ⟨V.ref b, H, I, rfl, q0 rfl⟩
  · refine HT.cat_tup ht ht' (fun z => hx (r.nil_iff.mp z)) (fun z => ⟨V.ref a, H, I, rfl, q1 (r'.nil_iff.mp z)⟩) (fun _ => ?_) (by rw [← r.length, ← r'.length]; exact hz)
    exact laidZ (t' := s.toks) I (r.append r') (by rw [List.length_append]; exact hz) q2
/-- tuple(xs), tuple(t) -/
def rTupOf (K : PySem.W.Frag) : List V → Hp → VK → Prop := fun vs H Q => (∃ p xs, vs = [.ref p] ∧ SqL K H p xs ∧ NewZ H xs Q) ∨ (∃ p xs, vs = [.ref p] ∧ SqT K H p xs ∧ Q (.ref p) H)
theorem call_tupZ : CallR X (.type "tuple") (rTupOf X.K) := fun pins s σ H vs us Q I r h => by
  rcases h with ⟨p, xs, rfl, hs, q⟩ | ⟨p, xs, rfl, hs, q⟩
  · obtain ⟨u, rfl, ru⟩ := vals1 r
    cases ru
    obtain ⟨its, rv, pl, hz⟩ := I.list hs
    refine call_tuple_list pl.isList (fun h' hk => ?_) (by rw [List.size_toArray, ← rv.length]; exact hz)
    exact laidZ (t' := s.toks) (I.kept (t' := s.toks) hk) rv hz q
  · obtain ⟨u, rfl, ru⟩ := vals1 r
    cases ru
    obtain ⟨its, rv, pl, hz⟩ := I.tuple hs
    exact PyProof.Rows.call_tuple_tup pl ⟨V.ref p, H, I, rfl, q⟩
/-- divmod(i, j) -/
def rDivmod : List V → Hp → VK → Prop := fun vs H Q => ∃ i j, vs = [.int i, .int j] ∧ (0 < j ∧ j.natAbs.log2 < 9000) ∧ NewZ H [.int (i / j), .int (i % j)] Q
theorem call_divmodZ : CallR X (.builtin "divmod") rDivmod := fun pins s σ H vs us Q I r h => by
  obtain ⟨i, j, rfl, ⟨h1, h2⟩, q⟩ := h
  obtain ⟨u, v, rfl, ⟨t, rfl⟩, ⟨t', rfl⟩⟩ := vals2 r
  refine PyProof.Rows.divmod_int (by omega) ?_ (.inl (PyProof.noPylong_of_log2 h2))
  rw [Int.fdiv_eq_ediv_of_nonneg i (by omega), Int.fmod_eq_emod_of_nonneg i (by omega)]
  exact laidZ (xs := [.int (i / j), .int (i % j)]) (its := [.int (i / j) s.toks, .int (i % j) (s.toks + 1)]) I (.cons ⟨_, rfl⟩ (.cons ⟨_, rfl⟩ .nil)) (by simp only [List.length_cons, List.length_nil]; decide) q
/-- i ** j -/
def CPowW (i j : Int) : Prop := 0 ≤ j ∧ (Builtin.Int.intBits i : Int) * j ≤ 2 ^ 27
theorem op_powW : OpR X (binaryOp .Pow) (rI CPowW fun i j => .int (i ^ j.toNat)) := opI fun i j _ _ _ _ _ hc q => PyProof.Rows.pow_int hc.1 hc.2 q
/-- list + list over tracked lists -/
theorem op_catLC : OpR X (binaryOp .Add) rCat := op_cat
/-! the methods of a plain tuple -/
def tBMT (r : V → List V → Hp → VK → Prop) (to : TE) (t : TA) : TE := fun σ H Q => to σ H fun x H1 => (∃ p xs, x = .ref p ∧ TupZ H1 p xs) ∧ t σ H1 fun xs H2 => r x xs H2 Q
theorem pe_bmT {o e : Expr} {to : TE} {name : Str} {apos cpos : Pos} {id : String} {r : V → List V → Hp → VK → Prop} (pa : PlainAttrs "tuple") (slot : Slot "tuple" name id) (hty : typeOf (.builtin id) = pure (.type "method_descriptor")) (hm : MtR X id r) (ho : PE X o to) (ha : PA X (e :: es) t)
    (hbase : attributeBase o name X.env (eval o X.env) = eval o X.env := by rfl)
    (hfew : ((backTo cpos (starEach (e :: es) X.env)).all (fun x => !x.1) && (backToKw cpos (keywordEach [] X.env)).all (fun x => x.1.isSome) && decide ((e :: es).length + ([] : List Keyword).length + (if ([] : List Keyword).isEmpty then 0 else 1) < 30)) = true := by rfl)
    (hline : (apos.endLine == cpos.line) = true := by rfl) (hs : starEach (e :: es) X.env = (false, eval e X.env) :: starEach es X.env := by rfl) (hplain : (backTo cpos (starEach es X.env)).any (·.1) = false := by rfl) :
    PE X (.Call (.Attribute o name apos) (e :: es) [] cpos) (tBMT r to t) := ⟨fun pins s σ H Q I h => by
  refine wpAny_Call_method_late hbase hfew hline rfl (thn (ho.run pins s σ H _ I h) fun v s1 ⟨x, H1, I1, r1, ⟨p, xs, ep, ob, hd, hp⟩, q1⟩ => ?_)
  subst ep
  cases r1
  obtain ⟨g1, g2⟩ := (I1.hok p _ hp : ObjOk X.prog X.w H1 s1.heap p (.frz ob (.tup xs)))
  obtain ⟨_, its, _, ob', g3, g4, _⟩ := g2
  cases g1.symm.trans g3
  refine ⟨"tuple", id, pa, slot, hty, ⟨ob, g1, g4⟩, fun a ea => ⟨ob, by cases ea; exact g1, hd⟩, ?_⟩
  have hA := ha.run cpos pins s1 σ H1 _ I1 q1
  rw [hs] at hA ⊢
  exact Calls.callWith_builtin (by show (false || (backTo cpos (starEach es X.env)).any (·.1)) = false; rw [hplain]; rfl) (Calls.evalArgs_plain (thn hA fun us s2 ⟨vs, H2, I2, r2, q2⟩ => hm pins s2 σ H2 (V.ref p) vs _ us Q I2 rfl r2 q2))⟩
end
end DL

set_option Elab.async false
set_option linter.all false
set_option maxRecDepth 100000
set_option autoImplicit false
set_option maxHeartbeats 1000000
namespace DL
open PySem PySem.Spec L2

/-! ## keys carried by value, no bools among them -/
def ckIs : Leaf → Value → Bool
  | .none, .none => true
  | .num i, .int j _ => decide (j = i)
  | .text x, v => Value.isStrOf x v
  | _, _ => false
theorem ckIs_leaf : ∀ {k : Leaf} {v : Value}, ckIs k v = true → Leaf.isOf k v = true
  | .none, v, h => by cases v <;> first | rfl | exact absurd h Bool.false_ne_true
  | .num i, v, h => by cases v <;> first | exact h | exact absurd h Bool.false_ne_true
  | .text x, v, h => h
def cK (P : Program) (w : World) : KeyKind P w Leaf where
  is := ckIs
  hash := (leafKind P w).hash
  inj := fun v a b ha hb => (leafKind P w).inj v a b (ckIs_leaf ha) (ckIs_leaf hb)
  byValue := fun k v h => (leafKind P w).byValue k v (ckIs_leaf h)
  pyHash := fun hv h => (leafKind P w).pyHash (ckIs_leaf hv) h
  eqBool := fun hu hv h => (leafKind P w).eqBool (ckIs_leaf hu) (ckIs_leaf hv) h
  «strs» := fun k x t v h => by
    cases k with
    | none => exact absurd h Bool.false_ne_true
    | num i => exact absurd h Bool.false_ne_true
    | text y =>
      obtain ⟨u, hu⟩ := Value.isStrOf_shape (show Value.isStrOf y (.str x t) = true from h)
      injection hu with hx
      subst hx
      cases v <;> rfl
/-- a key as a value of the layer, as data -/
def kvV : Leaf → V
  | .none => .non
  | .num i => .int i
  | .text x => .str x
def kvD : Leaf → PyData
  | .none => .none
  | .num i => .int i
  | .text x => .str x
theorem ck_of {P : Program} {w : World} {k : Leaf} {u : Value} (r : RelV (kvV k) u) : (cK P w).is k u = true := by
  cases k with
  | none => cases (show u = Value.none from r); rfl
  | num i => obtain ⟨t, rfl⟩ := (show ∃ t, u = Value.int i t from r); exact decide_eq_true rfl
  | text x => obtain ⟨t, rfl⟩ := (show ∃ t, u = Value.str x t from r); exact (by simp [cK, ckIs, Value.isStrOf])
theorem ck_rel {P : Program} {w : World} {k : Leaf} {u : Value} (h : (cK P w).is k u = true) : RelV (kvV k) u := by
  cases k with
  | none => cases u <;> first | rfl | exact absurd h Bool.false_ne_true
  | num i =>
    cases u with
    | int j t => have e : j = i := of_decide_eq_true h
                 subst e; exact ⟨t, rfl⟩
    | _ => exact absurd h Bool.false_ne_true
  | text x =>
    obtain ⟨t, e⟩ := Value.isStrOf_shape (show Value.isStrOf x u = true from h)
    exact ⟨t, e⟩

/-- a dict at a with such keys, as an object of the layer -/
def DicO (P : Program) (w : World) (a : Addr) (kvs : List (Leaf × V)) : HO :=
  .ext fun h => kvs.length ≤ sizeLine ∧ (a == sysModules) = false ∧ ∃ vs, KV kvs vs ∧ h.DictOf (cK P w) a vs

/-- a dict whose object is known to stay what it is -/
def LckO (P : Program) (w : World) (ob : Obj) (kvs : List (Leaf × V)) (a : Addr) : HO :=
  .ext fun h => h.get? a = some ob ∧ kvs.length ≤ sizeLine ∧ (a == sysModules) = false ∧ ∃ vs, KV kvs vs ∧ h.DictOf (cK P w) a vs

/-- a dict at a whose keys are tuples of whole numbers, at the addresses that are named -/
def TdkO (P : Program) (w : World) (a : Addr) (xs : List (List Int × Addr × V)) : HO :=
  .ext fun h => xs.length ≤ sizeLine ∧ (a == sysModules) = false ∧ ∃ vs : List (List Int × Addr × Value), Paired (fun (p : List Int × Addr × V) (q : List Int × Addr × Value) => p.1 = q.1 ∧ p.2.1 = q.2.1 ∧ RelV p.2.2 q.2.2) xs vs ∧
    ∃ o es ep, h.get? a = some o ∧ o.ExactDict ∧ o.data = .dict es ep ∧ es.toList = vs.map (entryOfKey (tupleKind (intKind P w))) ∧ (vs.map (·.1)).Nodup

/-! ## data that never changes -/
mutual
inductive Rp (P : Program) (w : World) (K : PySem.W.Frag) (F : Hp) : V → PyData → Prop
  | non : Rp P w K F .non .none
  | bl (b : Bool) : Rp P w K F (.bl b) (.bool b)
  | int (i : Int) : Rp P w K F (.int i) (.int i)
  | str (x : Str) : Rp P w K F (.str x) (.str x)
  | lst {a : Addr} {xs : List V} {ds : List PyData} : F a = some (.lst xs) → RpAll P w K F xs ds → Rp P w K F (.ref a) (.list ds)
  | tup {a : Addr} {xs : List V} {ds : List PyData} : TupZ F a xs → RpAll P w K F xs ds → Rp P w K F (.ref a) (.tuple ds)
  | dic {a : Addr} {kvs : List (Leaf × V)} {ps : List (PyData × PyData)} : F a = some (DicO P w a kvs) → ps.map (·.1) = kvs.map (fun p => kvD p.1) → RpAll P w K F (kvs.map (·.2)) (ps.map (·.2)) → Rp P w K F (.ref a) (.dict ps)
inductive RpAll (P : Program) (w : World) (K : PySem.W.Frag) (F : Hp) : List V → List PyData → Prop
  | nil : RpAll P w K F [] []
  | cons {v : V} {vs : List V} {d : PyData} {ds : List PyData} : Rp P w K F v d → RpAll P w K F vs ds → RpAll P w K F (v :: vs) (d :: ds)
end
def Ex (H H' : Hp) : Prop := ∀ a o, H a = some o → H' a = some o
theorem Ex.refl (H : Hp) : Ex H H := fun _ _ h => h
theorem Ex.trans {H H1 H2 : Hp} (a : Ex H H1) (b : Ex H1 H2) : Ex H H2 := fun x o h => b x o (a x o h)
theorem Ex.new {H : Hp} {p : Addr} {o : HO} (h : H p = none) : Ex H (upd H p o) := fun a u e => by
  rw [upd_ne (ne_of_none e h)]
  exact e
theorem Ex.rd {H H' : Hp} {a : Addr} {u : HO} (e : Ex H H') (h : Rd H a u) : Rd H' a u := by
  rcases h with h | ⟨o, h⟩
  · exact Or.inl (e a _ h)
  · exact Or.inr ⟨o, e a _ h⟩
theorem Ex.l {K : PySem.W.Frag} {H H' : Hp} {a : Addr} {xs : List V} (e : Ex H H') (h : SqL K H a xs) : SqL K H' a xs := h.imp e.rd id
theorem Ex.t {K : PySem.W.Frag} {H H' : Hp} {a : Addr} {xs : List V} (e : Ex H H') (h : SqT K H a xs) : SqT K H' a xs := h.imp e.rd id
theorem TupZ.up {F F' : Hp} {a : Addr} {xs : List V} (h : TupZ F a xs) (e : Ex F F') : TupZ F' a xs := let ⟨ob, d, q⟩ := h; ⟨ob, d, e _ _ q⟩
section
variable {P : Program} {w : World} {K : PySem.W.Frag} {F F' : Hp}
mutual
theorem Rp.up (e : Ex F F') : ∀ {v : V} {d : PyData}, Rp P w K F v d → Rp P w K F' v d
  | _, _, .non => .non
  | _, _, .bl b => .bl b
  | _, _, .int i => .int i
  | _, _, .str x => .str x
  | _, _, .lst h r => .lst (e _ _ h) (RpAll.up e r)
  | _, _, .tup h r => .tup (h.up e) (RpAll.up e r)
  | _, _, .dic h k r => .dic (e _ _ h) k (RpAll.up e r)
theorem RpAll.up (e : Ex F F') : ∀ {vs : List V} {ds : List PyData}, RpAll P w K F vs ds → RpAll P w K F' vs ds
  | _, _, .nil => .nil
  | _, _, .cons h r => .cons (Rp.up e h) (RpAll.up e r)
end
theorem RpAll.length : ∀ {vs : List V} {ds : List PyData}, RpAll P w K F vs ds → vs.length = ds.length
  | _, _, .nil => rfl
  | _, _, .cons _ r => by rw [List.length_cons, List.length_cons, RpAll.length r]
end

/-! ## the state of the data reading -/
inductive DV where
  | imm (d : PyData)
  | cell (k : Nat)
  | raw (v : V)
  | obj (φ : Addr → HO)
  | scr (ns : List Int)
/-- what a cell holds -/
inductive DO where
  | lst (ds : List DV)
  | dic (kvs : List (Leaf × DV))
  | ins (C : Addr) (fs : List (Str × DV))
  | ho (φ : Addr → HO)
  | lck (ob : Obj) (kvs : List (Leaf × DV))
  | tdk (kvs : List (List Int × DV))
structure DSt where
  ρ : List (Option DV)
  μ : List (Option DO)
def DSt.get (S : DSt) (i : Nat) : Option DV := (S.ρ[i]?).getD none
def DSt.set (S : DSt) (i : Nat) (d : DV) : DSt := ⟨S.ρ.set i (some d), S.μ⟩
def DSt.cell (S : DSt) (k : Nat) : Option DO := (S.μ[k]?).getD none
def DSt.put (S : DSt) (k : Nat) (o : DO) : DSt := ⟨S.ρ, S.μ.set k (some o)⟩
def DSt.new (S : DSt) (o : DO) : DSt := ⟨S.ρ, S.μ ++ [some o]⟩

section
variable (P : Program) (w : World) (K : PySem.W.Frag)
/-- a value stands for a reading -/
def VOk (F : Hp) (α : List Addr) (v : V) : DV → Prop
  | .imm d => Rp P w K F v d
  | .cell k => ∃ a, α[k]? = some a ∧ v = .ref a
  | .raw u => v = u
  | .obj φ => ∃ b, v = .ref b ∧ F b = some (φ b)
  | .scr ns => ∃ b, v = .ref b ∧ SqL K F b (ns.map V.int)
def COk (F : Hp) (α : List Addr) (H : Hp) (a : Addr) : DO → Prop
  | .lst ds => ∃ xs, H a = some (.lst xs) ∧ Paired (VOk P w K F α) xs ds
  | .dic kvs => ∃ ks, H a = some (DicO P w a ks) ∧ Paired (fun (p : Leaf × V) (q : Leaf × DV) => p.1 = q.1 ∧ VOk P w K F α p.2 q.2) ks kvs
  | .ins C fs => ∃ dx gs, H a = some (.ins C dx gs) ∧ Paired (fun (p : Str × V) (q : Str × DV) => p.1 = q.1 ∧ VOk P w K F α p.2 q.2) gs fs
  | .ho φ => H a = some (φ a)
  | .lck ob kvs => ∃ ks, H a = some (LckO P w ob ks a) ∧ Paired (fun (p : Leaf × V) (q : Leaf × DV) => p.1 = q.1 ∧ VOk P w K F α p.2 q.2) ks kvs
  | .tdk kvs => ∃ xs, H a = some (TdkO P w a xs) ∧ Paired (fun (p : List Int × Addr × V) (q : List Int × DV) => p.1 = q.1 ∧ Rp P w K F (.ref p.2.1) (.tuple (p.1.map .int)) ∧ VOk P w K F α p.2.2 q.2) xs kvs
/-- the entry of a def: what is known there, the heap, the cells that are handed in -/
structure Bs where
  F : Hp
  H : Hp
  ps : List Addr
structure StAt (B : Bs) (S : DSt) (σ : St) (ts : List (V × DV)) (H F : Hp) (α : List Addr) : Prop where
  fh : Ex F H
  bh : Ex B.F B.H
  bf : Ex B.F F
  bc : ∀ a o, B.H a = some o → B.F a = none → a ∉ B.ps → H a = some o ∧ F a = none ∧ a ∉ α
  bp : α.take B.ps.length = B.ps
  bn : ∀ a ∈ α, a ∈ B.ps ∨ B.H a = none
  nd : α.Nodup
  al : α.length = S.μ.length
  an : ∀ a ∈ α, H a ≠ none
  len : S.ρ.length = σ.length
  sl : ∀ (i : Nat) (d : DV), S.ρ[i]? = some (some d) → ∃ v, σ[i]? = some (some v) ∧ VOk P w K F α v d
  tm : ∀ p ∈ ts, VOk P w K F α p.1 p.2
  ce : ∀ (k : Nat) (o : DO), S.μ[k]? = some (some o) → ∃ a, α[k]? = some a ∧ F a = none ∧ COk P w K F α H a o
def StOk (B : Bs) (S : DSt) (σ : St) (ts : List (V × DV)) (H : Hp) : Prop := ∃ F α, StAt P w K B S σ ts H F α
end

abbrev DTE := DSt → (DV → DSt → Prop) → Prop
abbrev DTT := DSt → (Bool → DSt → Prop) → Prop
abbrev DTA := DSt → (List DV → DSt → Prop) → Prop
structure DEnds where
  nx : DSt → Prop
  rt : DV → DSt → Prop
  bk : DSt → Prop := fun _ => False
  ct : DSt → Prop := fun _ => False
abbrev DTS := DEnds → DSt → Prop

section
variable (P : Program) (w : World) (K : PySem.W.Frag)
def SndE (te : TE) (de : DTE) : Prop := ∀ (B : Bs) (S : DSt) (σ : St) (ts : List (V × DV)) (H : Hp) (R : DV → DSt → Prop) (Q : VK), StOk P w K B S σ ts H → de S R →
  (∀ v d S' H', R d S' → StOk P w K B S' σ ((v, d) :: ts) H' → Q v H') → te σ H Q
def SndT (tt : TT) (dt : DTT) : Prop := ∀ (B : Bs) (S : DSt) (σ : St) (ts : List (V × DV)) (H : Hp) (R : Bool → DSt → Prop) (Q : Bool → Hp → Prop), StOk P w K B S σ ts H → dt S R →
  (∀ b S' H', R b S' → StOk P w K B S' σ ts H' → Q b H') → tt σ H Q
def SndA (ta : TA) (da : DTA) : Prop := ∀ (B : Bs) (S : DSt) (σ : St) (ts : List (V × DV)) (H : Hp) (R : List DV → DSt → Prop) (Q : List V → Hp → Prop), StOk P w K B S σ ts H → da S R →
  (∀ vs ds S' H', vs.length = ds.length → R ds S' → StOk P w K B S' σ (vs.zip ds ++ ts) H' → Q vs H') → ta σ H Q
/-- the ends of a statement carry the ends of its reading -/
structure Lift (B : Bs) (ts : List (V × DV)) (D : DEnds) (G : Ends) : Prop where
  nx : ∀ S σ H, D.nx S → StOk P w K B S σ ts H → G.nx σ H
  rt : ∀ v d S σ H, D.rt d S → StOk P w K B S σ ((v, d) :: ts) H → G.rt v H
  bk : ∀ S σ H, D.bk S → StOk P w K B S σ ts H → G.bk σ H
  ct : ∀ S σ H, D.ct S → StOk P w K B S σ ts H → G.ct σ H
def SndS (t : TS) (dt : DTS) : Prop := ∀ (B : Bs) (S : DSt) (σ : St) (ts : List (V × DV)) (H : Hp) (D : DEnds) (G : Ends), StOk P w K B S σ ts H → dt D S → Lift P w K B ts D G → t G σ H
end
/-! ## the judgements -/
structure DE (X : Cx) (e : Expr) (de : DTE) : Prop where
  ex : ∃ te, PE X e te ∧ SndE X.prog X.w X.K te de
structure DT (X : Cx) (e : Expr) (dt : DTT) : Prop where
  ex : ∃ tt, PT X e tt ∧ SndT X.prog X.w X.K tt dt
structure DW (X : Cx) (e : Expr) (dt : DTT) : Prop where
  ex : ∃ tt, PW X e tt ∧ SndT X.prog X.w X.K tt dt
structure DA (X : Cx) (es : List Expr) (da : DTA) : Prop where
  ex : ∃ ta, PA X es ta ∧ SndA X.prog X.w X.K ta da
structure DS (X : Cx) (st : Stmt) (dt : DTS) : Prop where
  ex : ∃ t, PS X st t ∧ SndS X.prog X.w X.K t dt
structure DSs (X : Cx) (st : List Stmt) (dt : DTS) : Prop where
  ex : ∃ t, PSs X st t ∧ SndS X.prog X.w X.K t dt

section
variable {P : Program} {w : World} {K : PySem.W.Frag} {B : Bs} {S S' : DSt} {σ : St} {ts : List (V × DV)} {H F F' : Hp} {α : List Addr} {v : V} {d : DV}
theorem VOk.up (e : Ex F F') {β : List Addr} (h : VOk P w K F α v d) : VOk P w K F' (α ++ β) v d := by
  cases d with
  | imm d => exact Rp.up e h
  | cell k =>
    obtain ⟨a, h1, h2⟩ := h
    exact ⟨a, by rw [List.getElem?_append_left (List.getElem?_eq_some_iff.mp h1).1]; exact h1, h2⟩
  | raw u => exact h
  | obj φ =>
    obtain ⟨b, h1, h2⟩ := h
    exact ⟨b, h1, e _ _ h2⟩
  | scr ns =>
    obtain ⟨b, h1, h2⟩ := h
    exact ⟨b, h1, e.l h2⟩
theorem VOk.up0 (e : Ex F F') (h : VOk P w K F α v d) : VOk P w K F' α v d := by
  have := VOk.up (β := []) e h
  rwa [List.append_nil] at this
theorem paired_up {V1 D1 : Type} {r r' : V1 → D1 → Prop} (h : ∀ a b, r a b → r' a b) {xs : List V1} {ds : List D1} (p : Paired r xs ds) : Paired r' xs ds := Paired.mapP p h
theorem COk.up (e : Ex F F') {β : List Addr} {H' : Hp} {a : Addr} {o : DO} (ha : H' a = H a) (h : COk P w K F α H a o) : COk P w K F' (α ++ β) H' a o := by
  cases o with
  | lst ds =>
    obtain ⟨xs, h1, h2⟩ := h
    exact ⟨xs, ha.trans h1, paired_up (fun _ _ q => q.up e) h2⟩
  | dic kvs =>
    obtain ⟨xs, h1, h2⟩ := h
    exact ⟨xs, ha.trans h1, paired_up (fun _ _ q => ⟨q.1, q.2.up e⟩) h2⟩
  | ins C fs =>
    obtain ⟨dx, xs, h1, h2⟩ := h
    exact ⟨dx, xs, ha.trans h1, paired_up (fun _ _ q => ⟨q.1, q.2.up e⟩) h2⟩
  | ho φ => exact ha.trans h
  | lck ob kvs =>
    obtain ⟨xs, h1, h2⟩ := h
    exact ⟨xs, ha.trans h1, paired_up (fun _ _ q => ⟨q.1, q.2.up e⟩) h2⟩
  | tdk kvs =>
    obtain ⟨xs, h1, h2⟩ := h
    exact ⟨xs, ha.trans h1, paired_up (fun _ _ q => ⟨q.1, q.2.1.up e, q.2.2.up e⟩) h2⟩
theorem COk.up0 (e : Ex F F') {H' : Hp} {a : Addr} {o : DO} (ha : H' a = H a) (h : COk P w K F α H a o) : COk P w K F' α H' a o := by
  have := COk.up (β := []) e ha h
  rwa [List.append_nil] at this

theorem StOk.drop {p : V × DV} (h : StOk P w K B S σ (p :: ts) H) : StOk P w K B S σ ts H := by
  obtain ⟨F, α, h⟩ := h
  exact ⟨F, α, { h with tm := fun q hq => h.tm q (List.mem_cons_of_mem _ hq) }⟩
theorem StOk.sub {ts' : List (V × DV)} (h : StOk P w K B S σ ts H) (hs : ∀ p ∈ ts', p ∈ ts) : StOk P w K B S σ ts' H := by
  obtain ⟨F, α, h⟩ := h
  exact ⟨F, α, { h with tm := fun q hq => h.tm q (hs q hq) }⟩
/-- one more value that is known by what stands -/
theorem StOk.add (h : StOk P w K B S σ ts H) (hv : ∀ F α, StAt P w K B S σ ts H F α → VOk P w K F α v d) : StOk P w K B S σ ((v, d) :: ts) H := by
  obtain ⟨F, α, h⟩ := h
  refine ⟨F, α, { h with tm := fun q hq => ?_ }⟩
  rcases List.mem_cons.mp hq with e | hq
  · subst e; exact hv F α h
  · exact h.tm q hq
/-- a new object that never changes -/
theorem StAt.lay {p : Addr} {o : HO} (h : StAt P w K B S σ ts H F α) (hp : H p = none) : StAt P w K B S σ ts (upd H p o) (upd F p o) α := by
  have hpF : F p = none := by
    cases q : F p with
    | none => rfl
    | some u => rw [h.fh p u q] at hp; cases hp
  have hpa : p ∉ α := fun q => h.an p q hp
  have e : Ex F (upd F p o) := Ex.new hpF
  have ne : ∀ {a : Addr}, a ∈ α → a ≠ p := fun q e => hpa (e ▸ q)
  refine ⟨fun a u q => ?_, h.bh, h.bf.trans e, fun a u q1 q2 q3 => ?_, h.bp, h.bn, h.nd, h.al, fun a q => ?_, h.len, fun i d q => ?_, fun q hq => (h.tm q hq).up0 e, fun k u q => ?_⟩
  · by_cases c : a = p
    · subst c; rw [upd_same] at q ⊢; exact q
    · rw [upd_ne c] at q ⊢; exact h.fh a u q
  · obtain ⟨h1, h2, h3⟩ := h.bc a u q1 q2 q3
    have c : a ≠ p := ne_of_none h1 hp
    exact ⟨by rw [upd_ne c]; exact h1, by rw [upd_ne c]; exact h2, h3⟩
  · rw [upd_ne (ne q)]; exact h.an a q
  · obtain ⟨v, h1, h2⟩ := h.sl i d q
    exact ⟨v, h1, h2.up0 e⟩
  · obtain ⟨a, h1, h2, h3⟩ := h.ce k u q
    have c : a ≠ p := ne (List.mem_of_getElem? h1)
    exact ⟨a, h1, by rw [upd_ne c]; exact h2, h3.up0 e (upd_ne c)⟩
/-- what stood nowhere at the entry -/
theorem StAt.freshB {p : Addr} (h : StAt P w K B S σ ts H F α) (hp : H p = none) : B.H p = none := by
  cases q : B.H p with
  | none => rfl
  | some o =>
    exfalso
    cases q2 : B.F p with
    | some u =>
      have := h.fh p u (h.bf p u q2)
      rw [hp] at this; cases this
    | none =>
      by_cases c : p ∈ B.ps
      · exact h.an p (List.mem_of_mem_take (by rw [h.bp]; exact c)) hp
      · have := (h.bc p o q q2 c).1
        rw [hp] at this; cases this
/-- a new cell -/
theorem StAt.cellNew {p : Addr} {o : HO} {u : DO} (h : StAt P w K B S σ ts H F α) (hp : H p = none) (hu : COk P w K F (α ++ [p]) (upd H p o) p u) : StAt P w K B (S.new u) σ ts (upd H p o) F (α ++ [p]) := by
  have hB : B.H p = none := h.freshB hp
  have hpF : F p = none := by
    cases q : F p with
    | none => rfl
    | some u => rw [h.fh p u q] at hp; cases hp
  have hpa : p ∉ α := fun q => h.an p q hp
  have ne : ∀ {a : Addr}, a ∈ α → a ≠ p := fun q e => hpa (e ▸ q)
  have hbl : B.ps.length ≤ α.length := by
    have := congrArg List.length h.bp
    rw [List.length_take] at this
    omega
  refine ⟨h.fh.trans (Ex.new hp), h.bh, h.bf, fun a v q1 q2 q3 => ?_, ?_, fun a q => ?_, ?_, ?_, fun a q => ?_, h.len, fun i d q => ?_, fun q hq => (h.tm q hq).up (Ex.refl _), fun k v q => ?_⟩
  · obtain ⟨h1, h2, h3⟩ := h.bc a v q1 q2 q3
    have c : a ≠ p := ne_of_none h1 hp
    refine ⟨by rw [upd_ne c]; exact h1, h2, fun q => ?_⟩
    rcases List.mem_append.mp q with q | q
    · exact h3 q
    · exact c (List.mem_singleton.mp q)
  · rw [List.take_append_of_le_length hbl]; exact h.bp
  · rcases List.mem_append.mp q with q | q
    · exact h.bn a q
    · rw [List.mem_singleton.mp q]; exact .inr hB
  · rw [List.nodup_append]
    exact ⟨h.nd, by simp, fun a q b r => by rw [List.mem_singleton.mp r]; exact ne q⟩
  · show (α ++ [p]).length = (S.μ ++ [some u]).length
    rw [List.length_append, List.length_append, h.al, List.length_singleton, List.length_singleton]
  · rcases List.mem_append.mp q with q | q
    · rw [upd_ne (ne q)]; exact h.an a q
    · rw [List.mem_singleton.mp q, upd_same]; exact fun z => by cases z
  · obtain ⟨v, h1, h2⟩ := h.sl i d q
    exact ⟨v, h1, h2.up (Ex.refl _)⟩
  · have q' : (S.μ ++ [some u])[k]? = some (some v) := q
    by_cases hk : k < S.μ.length
    · rw [List.getElem?_append_left hk] at q'
      obtain ⟨a, h1, h2, h3⟩ := h.ce k v q'
      have c : a ≠ p := ne (List.mem_of_getElem? h1)
      exact ⟨a, by rw [List.getElem?_append_left (by rw [h.al]; exact hk)]; exact h1, h2, h3.up (Ex.refl _) (upd_ne c)⟩
    · have hk2 : k = S.μ.length := by
        have := (List.getElem?_eq_some_iff.mp q').1
        rw [List.length_append, List.length_singleton] at this
        omega
      subst hk2
      rw [List.getElem?_append_right (Nat.le_refl _), Nat.sub_self] at q'
      cases q'
      exact ⟨p, by rw [← h.al, List.getElem?_append_right (Nat.le_refl _), Nat.sub_self]; rfl, hpF, hu⟩
/-- a cell's content changes -/
theorem StAt.cellPut {k : Nat} {a : Addr} {o : HO} {u : DO} (h : StAt P w K B S σ ts H F α) (ha : α[k]? = some a) (hF : F a = none) (hu : COk P w K F α (upd H a o) a u) : StAt P w K B (S.put k u) σ ts (upd H a o) F α := by
  have am : a ∈ α := List.mem_of_getElem? ha
  refine ⟨fun b v q => ?_, h.bh, h.bf, fun b v q1 q2 q3 => ?_, h.bp, h.bn, h.nd, ?_, fun b q => ?_, h.len, h.sl, h.tm, fun j v q => ?_⟩
  · have c : b ≠ a := fun e => by rw [e, hF] at q; cases q
    rw [upd_ne c]; exact h.fh b v q
  · obtain ⟨h1, h2, h3⟩ := h.bc b v q1 q2 q3
    have c : b ≠ a := fun e => h3 (e ▸ am)
    exact ⟨by rw [upd_ne c]; exact h1, h2, h3⟩
  · show α.length = (S.μ.set k (some u)).length
    rw [List.length_set]; exact h.al
  · by_cases c : b = a
    · rw [c, upd_same]; exact fun z => by cases z
    · rw [upd_ne c]; exact h.an b q
  · have q' : (S.μ.set k (some u))[j]? = some (some v) := q
    by_cases c : k = j
    · subst c
      rw [List.getElem?_set_self (by rw [← h.al]; exact (List.getElem?_eq_some_iff.mp ha).1)] at q'
      cases q'
      exact ⟨a, ha, hF, hu⟩
    · rw [List.getElem?_set_ne c] at q'
      obtain ⟨b, h1, h2, h3⟩ := h.ce j v q'
      have cb : b ≠ a := fun e => by
        subst e
        have i1 := List.getElem?_eq_some_iff.mp ha
        have i2 := List.getElem?_eq_some_iff.mp h1
        exact c ((List.getElem_inj h.nd).mp (i1.2.trans i2.2.symm))
      exact ⟨b, h1, h2, h3.up0 (Ex.refl _) (upd_ne cb)⟩
end
end DL

set_option Elab.async false
set_option linter.all false
set_option maxRecDepth 100000
set_option autoImplicit false
set_option maxHeartbeats 1000000
namespace DL
open PySem PySem.Spec L2

/-! ## short names -/
abbrev dI (i : Int) : DV := .imm (.int i)
abbrev dB (b : Bool) : DV := .imm (.bool b)
abbrev dS (x : Str) : DV := .imm (.str x)
abbrev dN : DV := .imm .none
def allImm : List DV → Option (List PyData)
  | [] => some []
  | .imm d :: r => (allImm r).map (d :: ·)
  | _ :: _ => none
theorem allImm_map (ps : List PyData) : allImm (ps.map DV.imm) = some ps := by
  induction ps with
  | nil => rfl
  | cons p r ih => show (allImm (r.map DV.imm)).map _ = _; rw [ih]; rfl
theorem allImm_eq : ∀ {ds : List DV} {ps : List PyData}, allImm ds = some ps → ds = ps.map DV.imm
  | [], ps, h => by cases h; rfl
  | .imm d :: r, ps, h => by
    have h' : (allImm r).map (d :: ·) = some ps := h
    cases e : allImm r with
    | none => rw [e] at h'; cases h'
    | some q => rw [e] at h'; cases h'; rw [allImm_eq e]; rfl
  | .cell _ :: _, _, h => by cases h
  | .raw _ :: _, _, h => by cases h
  | .obj _ :: _, _, h => by cases h
  | .scr _ :: _, _, h => by cases h
/-- the items of a list (true) or of a tuple (false) -/
def DSt.seq (S : DSt) : DV → Option (Bool × List DV)
  | .imm (.list ds) => some (true, ds.map .imm)
  | .imm (.tuple ds) => some (false, ds.map .imm)
  | .cell k => match S.cell k with
    | some (.lst ds) => some (true, ds)
    | _ => none
  | .scr ns => some (true, ns.map fun n => .imm (.int n))
  | _ => none

section
variable {P : Program} {w : World} {K : PySem.W.Frag} {B : Bs} {S S' : DSt} {σ : St} {ts : List (V × DV)} {H F F' : Hp} {α : List Addr} {v : V} {d : DV}
theorem paired_imm : ∀ {xs : List V} {ps : List PyData}, RpAll P w K F xs ps → Paired (VOk P w K F α) xs (ps.map DV.imm)
  | _, _, .nil => .nil
  | _, _, .cons h r => .cons h (paired_imm r)
theorem imm_paired : ∀ {xs : List V} {ps : List PyData}, Paired (VOk P w K F α) xs (ps.map DV.imm) → RpAll P w K F xs ps
  | [], [], _ => .nil
  | [], _ :: _, h => by cases h
  | _ :: _, [], h => by cases h
  | _ :: _, _ :: _, .cons h r => .cons h (imm_paired r)
theorem cell_get {k : Nat} {o : DO} (h : S.cell k = some o) : S.μ[k]? = some (some o) := by
  unfold DSt.cell at h
  cases e : S.μ[k]? with
  | none => rw [e] at h; cases h
  | some u => rw [e] at h; exact congrArg some h
theorem get_slot {i : Nat} (h : S.get i = some d) : S.ρ[i]? = some (some d) := by
  unfold DSt.get at h
  cases e : S.ρ[i]? with
  | none => rw [e] at h; cases h
  | some u => rw [e] at h; exact congrArg some h
theorem scr_paired : ∀ (ns : List Int), Paired (VOk P w K F α) (ns.map V.int) (ns.map fun n => DV.imm (.int n))
  | [] => .nil
  | n :: r => .cons (.int n) (scr_paired r)
theorem StAt.seq (h : StAt P w K B S σ ts H F α) (hv : VOk P w K F α v d) {b : Bool} {ds : List DV} (e : S.seq d = some (b, ds)) :
    ∃ a xs, v = .ref a ∧ (if b = true then SqL K H a xs else SqT K H a xs) ∧ Paired (VOk P w K F α) xs ds := by
  cases d with
  | imm d =>
    cases d with
    | list ps =>
      cases e
      cases hv with
      | lst h1 h2 => exact ⟨_, _, rfl, SqL.of (h.fh _ _ h1), paired_imm h2⟩
    | tuple ps =>
      cases e
      cases hv with
      | tup h1 h2 => exact ⟨_, _, rfl, (h1.up h.fh).t, paired_imm h2⟩
    | none => cases e
    | bool b => cases e
    | int i => cases e
    | str x => cases e
    | dict kvs => cases e
  | cell k =>
    obtain ⟨a, h1, rfl⟩ := hv
    have e' : (match S.cell k with | some (.lst ds) => some (true, ds) | _ => none) = some (b, ds) := e
    cases q : S.cell k with
    | none => rw [q] at e'; cases e'
    | some o =>
      rw [q] at e'
      cases o with
      | lst es =>
        cases e'
        obtain ⟨a', g1, _, xs, g2, g3⟩ := h.ce k _ (cell_get q)
        cases h1.symm.trans g1
        exact ⟨a, xs, rfl, SqL.of g2, g3⟩
      | dic _ => cases e'
      | ins _ _ => cases e'
      | ho _ => cases e'
      | lck _ _ => cases e'
      | tdk _ => cases e'
  | raw _ => cases e
  | obj _ => cases e
  | scr ns =>
    cases e
    obtain ⟨a, rfl, h1⟩ := hv
    exact ⟨a, _, rfl, h.fh.l h1, scr_paired ns⟩
/-- a list that is tracked: its address and its items -/
def DSt.lst (S : DSt) : DV → Option (List DV)
  | .imm (.list ds) => some (ds.map .imm)
  | .cell k => match S.cell k with
    | some (.lst ds) => some ds
    | _ => none
  | _ => none
theorem StAt.lst (h : StAt P w K B S σ ts H F α) (hv : VOk P w K F α v d) {ds : List DV} (e : S.lst d = some ds) :
    ∃ a xs, v = .ref a ∧ H a = some (.lst xs) ∧ Paired (VOk P w K F α) xs ds := by
  cases d with
  | imm d =>
    cases d with
    | list ps =>
      cases e
      cases hv with
      | lst h1 h2 => exact ⟨_, _, rfl, h.fh _ _ h1, paired_imm h2⟩
    | tuple ps => cases e
    | none => cases e
    | bool b => cases e
    | int i => cases e
    | str x => cases e
    | dict kvs => cases e
  | cell k =>
    obtain ⟨a, h1, rfl⟩ := hv
    have e' : (match S.cell k with | some (.lst ds) => some ds | _ => none) = some ds := e
    cases q : S.cell k with
    | none => rw [q] at e'; cases e'
    | some o =>
      rw [q] at e'
      cases o with
      | lst es =>
        cases e'
        obtain ⟨a', g1, _, xs, g2, g3⟩ := h.ce k _ (cell_get q)
        cases h1.symm.trans g1
        exact ⟨a, xs, rfl, g2, g3⟩
      | dic _ => cases e'
      | ins _ _ => cases e'
      | ho _ => cases e'
      | lck _ _ => cases e'
      | tdk _ => cases e'
  | raw _ => cases e
  | obj _ => cases e
  | scr _ => cases e
theorem Paired.atI' {xs : List V} {ds : List DV} {r : V → DV → Prop} (p : Paired r xs ds) {i : Int} {d : DV} (h : atI ds i = some d) : ∃ v, atI xs i = some v ∧ r v d := by
  have hl := Paired.length p
  unfold atI at h ⊢
  rw [hl]
  cases e : ixN ds.length i with
  | none => rw [e] at h; cases h
  | some j =>
    rw [e] at h
    have h' : ds[j]? = some d := h
    have : ∀ {xs : List V} {ds : List DV} {j : Nat}, Paired r xs ds → ds[j]? = some d → ∃ v, xs[j]? = some v ∧ r v d := by
      intro xs ds j p
      induction p generalizing j with
      | nil => intro h; simp at h
      | @cons a b as bs h1 _ ih =>
        intro h
        cases j with
        | zero => simp at h; subst h; exact ⟨a, rfl, h1⟩
        | succ j => exact ih (by simpa using h)
    exact this p h'
theorem Paired.take' {V1 D1 : Type} {r : V1 → D1 → Prop} : ∀ {xs : List V1} {ds : List D1} (n : Nat), Paired r xs ds → Paired r (xs.take n) (ds.take n)
  | _, _, 0, _ => .nil
  | _, _, _ + 1, .nil => .nil
  | _, _, n + 1, .cons h t => .cons h (Paired.take' n t)
theorem Paired.drop' {V1 D1 : Type} {r : V1 → D1 → Prop} : ∀ {xs : List V1} {ds : List D1} (n : Nat), Paired r xs ds → Paired r (xs.drop n) (ds.drop n)
  | _, _, 0, p => p
  | _, _, _ + 1, .nil => .nil
  | _, _, n + 1, .cons _ t => Paired.drop' n t
theorem Paired.app' {V1 D1 : Type} {r : V1 → D1 → Prop} : ∀ {xs ys : List V1} {ds es : List D1}, Paired r xs ds → Paired r ys es → Paired r (xs ++ ys) (ds ++ es)
  | _, _, _, _, .nil, q => q
  | _, _, _, _, .cons h t, q => .cons h (Paired.app' t q)
theorem Paired.set' {V1 D1 : Type} {r : V1 → D1 → Prop} {x : V1} {d : D1} (hx : r x d) : ∀ {xs : List V1} {ds : List D1} (i : Nat), Paired r xs ds → Paired r (xs.set i x) (ds.set i d)
  | _, _, _, .nil => .nil
  | _, _, 0, .cons _ t => .cons hx t
  | _, _, i + 1, .cons h t => .cons h (Paired.set' hx i t)
theorem Paired.erase' {V1 D1 : Type} {r : V1 → D1 → Prop} : ∀ {xs : List V1} {ds : List D1} (i : Nat), Paired r xs ds → Paired r (xs.eraseIdx i) (ds.eraseIdx i)
  | _, _, _, .nil => .nil
  | _, _, 0, .cons _ t => t
  | _, _, i + 1, .cons h t => .cons h (Paired.erase' i t)
theorem Paired.rev' {V1 D1 : Type} {r : V1 → D1 → Prop} {xs : List V1} {ds : List D1} (p : Paired r xs ds) : Paired r xs.reverse ds.reverse := by
  induction p with
  | nil => exact .nil
  | cons h _ ih => rw [List.reverse_cons, List.reverse_cons]; exact Paired.app' ih (.cons h .nil)
theorem Paired.dropLast' {V1 D1 : Type} {r : V1 → D1 → Prop} {xs : List V1} {ds : List D1} (p : Paired r xs ds) : Paired r xs.dropLast ds.dropLast := by
  rw [List.dropLast_eq_take, List.dropLast_eq_take, Paired.length p]
  exact Paired.take' _ p
end

/-! ## expressions -/
def dVar (i : Nat) : DTE := fun S R => match S.get i with
  | some d => R d S
  | none => False
def dC (d : DV) : DTE := fun S R => R d S
abbrev D2 := DV → DV → DSt → (DV → DSt → Prop) → Prop
abbrev D1 := DV → DSt → (DV → DSt → Prop) → Prop
def dOp (g : D2) (da db : DTE) : DTE := fun S R => da S fun x S1 => db S1 fun y S2 => g x y S2 R
def dUn (g : D1) (da : DTE) : DTE := fun S R => da S fun x S1 => g x S1 R
def dTest (de : DTE) : DTT := fun S R => de S fun x S1 => match x with
  | .imm (.bool b) => R b S1
  | _ => False
def dAnd (t u : DTT) : DTT := fun S R => t S fun b S1 => if b = true then u S1 R else R false S1
def dOr (t u : DTT) : DTT := fun S R => t S fun b S1 => if b = true then R true S1 else u S1 R
def dNot (t : DTT) : DTT := fun S R => t S fun b S1 => R (!b) S1
def dIf (c : DTT) (da db : DTE) : DTE := fun S R => c S fun b S1 => if b = true then da S1 R else db S1 R
/-- and, or of bools as values -/
def dAndV (da db : DTE) : DTE := fun S R => da S fun x S1 => match x with
  | .imm (.bool b) => if b = true then db S1 R else R (dB false) S1
  | _ => False
def dOrV (da db : DTE) : DTE := fun S R => da S fun x S1 => match x with
  | .imm (.bool b) => if b = true then R (dB true) S1 else db S1 R
  | _ => False
def dNotV (da : DTE) : DTE := fun S R => da S fun x S1 => match x with
  | .imm (.bool b) => R (dB (!b)) S1
  | _ => False
def dNil : DTA := fun S R => R [] S
def dCons (da : DTE) (dr : DTA) : DTA := fun S R => da S fun x S1 => dr S1 fun xs S2 => R (x :: xs) S2
def dTup (da : DTA) : DTE := fun S R => da S fun ds S1 => ds.length ≤ sizeLine ∧ match allImm ds with
  | some ps => R (.imm (.tuple ps)) S1
  | none => False
def dLst (da : DTA) : DTE := fun S R => da S fun ds S1 => ds.length ≤ sizeLine ∧ match allImm ds with
  | some ps => R (.imm (.list ps)) S1
  | none => False
/-- a list display that becomes a cell -/
def dLstC (da : DTA) : DTE := fun S R => da S fun ds S1 => ds.length ≤ sizeLine ∧ R (.cell S1.μ.length) (S1.new (.lst ds))
/-- a call of a built-in with values -/
abbrev DC1 := List DV → DSt → (DV → DSt → Prop) → Prop
def dCB (g : DC1) (da : DTA) : DTE := fun S R => da S fun ds S1 => g ds S1 R

section
variable (P : Program) (w : World) (K : PySem.W.Frag)
def SndR (r : R2) (g : D2) : Prop := ∀ (B : Bs) (S : DSt) (σ : St) (ts : List (V × DV)) (H : Hp) (x y : V) (dx dy : DV) (R : DV → DSt → Prop) (Q : VK), StOk P w K B S σ ((y, dy) :: (x, dx) :: ts) H → g dx dy S R →
  (∀ v d S' H', R d S' → StOk P w K B S' σ ((v, d) :: ts) H' → Q v H') → r x y H Q
def SndU (r : V → Hp → VK → Prop) (g : D1) : Prop := ∀ (B : Bs) (S : DSt) (σ : St) (ts : List (V × DV)) (H : Hp) (x : V) (dx : DV) (R : DV → DSt → Prop) (Q : VK), StOk P w K B S σ ((x, dx) :: ts) H → g dx S R →
  (∀ v d S' H', R d S' → StOk P w K B S' σ ((v, d) :: ts) H' → Q v H') → r x H Q
def SndC (r : List V → Hp → VK → Prop) (g : DC1) : Prop := ∀ (B : Bs) (S : DSt) (σ : St) (ts : List (V × DV)) (H : Hp) (xs : List V) (ds : List DV) (R : DV → DSt → Prop) (Q : VK), xs.length = ds.length → StOk P w K B S σ (xs.zip ds ++ ts) H → g ds S R →
  (∀ v d S' H', R d S' → StOk P w K B S' σ ((v, d) :: ts) H' → Q v H') → r xs H Q
end
/-- an operation with its data reading -/
structure OpD (X : Cx) (f : Value → Value → Sem Value) (g : D2) : Prop where
  ex : ∃ r, OpR X f r ∧ SndR X.prog X.w X.K r g
structure UnD (X : Cx) (f : Value → Sem Value) (g : D1) : Prop where
  ex : ∃ r, UnR X f r ∧ SndU X.prog X.w X.K r g
structure CallD (X : Cx) (f : Value) (g : DC1) : Prop where
  ex : ∃ r, CallR X f r ∧ SndC X.prog X.w X.K r g

section
variable {P : Program} {w : World} {K : PySem.W.Frag} {B : Bs} {S S' : DSt} {σ : St} {ts : List (V × DV)} {H F F' : Hp} {α : List Addr} {v : V} {d : DV}
theorem StOk.top (h : StOk P w K B S σ ((v, d) :: ts) H) : ∃ F α, StAt P w K B S σ ((v, d) :: ts) H F α ∧ VOk P w K F α v d := by
  obtain ⟨F, α, h⟩ := h
  exact ⟨F, α, h, h.tm _ List.mem_cons_self⟩
theorem StAt.top (h : StAt P w K B S σ ((v, d) :: ts) H F α) : VOk P w K F α v d := h.tm _ List.mem_cons_self
theorem StAt.top2 {x : V} {dx : DV} (h : StAt P w K B S σ ((v, d) :: (x, dx) :: ts) H F α) : VOk P w K F α x dx := h.tm _ (List.mem_cons_of_mem _ List.mem_cons_self)
theorem StAt.sub {ts' : List (V × DV)} (h : StAt P w K B S σ ts H F α) (hs : ∀ p ∈ ts', p ∈ ts) : StAt P w K B S σ ts' H F α := { h with tm := fun q hq => h.tm q (hs q hq) }
theorem StAt.add (h : StAt P w K B S σ ts H F α) (hv : VOk P w K F α v d) : StAt P w K B S σ ((v, d) :: ts) H F α := by
  refine { h with tm := fun q hq => ?_ }
  rcases List.mem_cons.mp hq with e | hq
  · subst e; exact hv
  · exact h.tm q hq
theorem mem2 {x y : V} {dx dy : DV} {ts : List (V × DV)} : ∀ p ∈ ts, p ∈ (y, dy) :: (x, dx) :: ts := fun _ h => List.mem_cons_of_mem _ (List.mem_cons_of_mem _ h)
theorem mem1 {x : V} {dx : DV} {ts : List (V × DV)} : ∀ p ∈ ts, p ∈ (x, dx) :: ts := fun _ h => List.mem_cons_of_mem _ h
theorem memA {us ts : List (V × DV)} : ∀ p ∈ ts, p ∈ us ++ ts := fun _ h => List.mem_append_right _ h
theorem StAt.ok (h : StAt P w K B S σ ts H F α) : StOk P w K B S σ ts H := ⟨F, α, h⟩
/-- the arguments that stand -/
theorem StAt.args {xs : List V} {ds : List DV} (hl : xs.length = ds.length) (h : StAt P w K B S σ (xs.zip ds ++ ts) H F α) : Paired (VOk P w K F α) xs ds := by
  have : ∀ (xs : List V) (ds : List DV), xs.length = ds.length → (∀ p ∈ xs.zip ds, VOk P w K F α p.1 p.2) → Paired (VOk P w K F α) xs ds := by
    intro xs
    induction xs with
    | nil => intro ds hl _; cases ds with
      | nil => exact .nil
      | cons _ _ => simp at hl
    | cons x xs ih => intro ds hl hp; cases ds with
      | nil => simp at hl
      | cons d ds => exact .cons (hp (x, d) (by simp)) (ih ds (by simpa using hl) fun p hp' => hp p (by simp [hp']))
  exact this xs ds hl fun p hp => h.tm p (List.mem_append_left _ hp)
/-- a value that hangs on nothing -/
theorem vint {i : Int} : VOk P w K F α (.int i) (dI i) := Rp.int i
theorem vbl {b : Bool} : VOk P w K F α (.bl b) (dB b) := Rp.bl b
theorem vstr {x : Str} : VOk P w K F α (.str x) (dS x) := Rp.str x
theorem vnon : VOk P w K F α .non dN := Rp.non
theorem vok_int {i : Int} (h : VOk P w K F α v (dI i)) : v = .int i := by cases h; rfl
theorem vok_bl {b : Bool} (h : VOk P w K F α v (dB b)) : v = .bl b := by cases h; rfl
theorem vok_str {x : Str} (h : VOk P w K F α v (dS x)) : v = .str x := by cases h; rfl
theorem vok_non (h : VOk P w K F α v dN) : v = .non := by cases h; rfl
/-- a new tuple, a new list of what stands -/
theorem StAt.newTup {p : Addr} {ob : Obj} {xs : List V} {ps : List PyData} (h : StAt P w K B S σ ts H F α) (hp : H p = none) (ho : ob.dict = none) (hx : RpAll P w K F xs ps) :
    StAt P w K B S σ ((.ref p, .imm (.tuple ps)) :: ts) (upd H p (.frz ob (.tup xs))) (upd F p (.frz ob (.tup xs))) α :=
  (h.lay hp).add (Rp.tup ⟨ob, ho, upd_same⟩ (hx.up (Ex.new (by
    cases q : F p with
    | none => rfl
    | some u => have := h.fh p u q; rw [hp] at this; cases this))))
theorem StAt.newLst {p : Addr} {xs : List V} {ps : List PyData} (h : StAt P w K B S σ ts H F α) (hp : H p = none) (hx : RpAll P w K F xs ps) :
    StAt P w K B S σ ((.ref p, .imm (.list ps)) :: ts) (upd H p (.lst xs)) (upd F p (.lst xs)) α :=
  (h.lay hp).add (Rp.lst upd_same (hx.up (Ex.new (by
    cases q : F p with
    | none => rfl
    | some u => have := h.fh p u q; rw [hp] at this; cases this))))
theorem StAt.newCell {p : Addr} {xs : List V} {ds : List DV} (h : StAt P w K B S σ ts H F α) (hp : H p = none) (hx : Paired (VOk P w K F α) xs ds) :
    StAt P w K B (S.new (.lst ds)) σ ((.ref p, .cell S.μ.length) :: ts) (upd H p (.lst xs)) F (α ++ [p]) :=
  (h.cellNew (u := .lst ds) hp ⟨xs, upd_same, paired_up (fun _ _ q => q.up (Ex.refl _)) hx⟩).add ⟨p, by rw [← h.al, List.getElem?_append_right (Nat.le_refl _), Nat.sub_self]; rfl, rfl⟩
theorem imms {ds : List DV} {ps : List PyData} {xs : List V} (e : allImm ds = some ps) (h : Paired (VOk P w K F α) xs ds) : RpAll P w K F xs ps := by
  rw [allImm_eq e] at h
  exact imm_paired h

/-! ### the parts are sound -/
variable {ta tb : TE} {da db : DTE} {tt tu : TT} {dt du : DTT} {tr : TA} {dr : DTA}
theorem snd_var (i : Nat) : SndE P w K (tVar i) (dVar i) := fun B S σ ts H R Q h hd k => by
  unfold dVar at hd
  cases e : S.get i with
  | none => rw [e] at hd; exact hd.elim
  | some d =>
    rw [e] at hd
    obtain ⟨F, α, h⟩ := h
    obtain ⟨v, h1, h2⟩ := h.sl i d (get_slot e)
    exact ⟨v, h1, k v d S H hd (h.add h2).ok⟩
theorem snd_c {u : V} (hv : ∀ (F : Hp) (α : List Addr), VOk P w K F α u d) : SndE P w K (tC u) (dC d) := fun B S σ ts H R Q h hd k => k u d S H hd (h.add fun F α _ => hv F α)
theorem snd_op {r : R2} {g : D2} (ha : SndE P w K ta da) (hb : SndE P w K tb db) (hr : SndR P w K r g) : SndE P w K (tOp r ta tb) (dOp g da db) := fun B S σ ts H R Q h hd k =>
  ha B S σ ts H _ _ h hd fun x dx S1 H1 h1 o1 => hb B S1 σ _ H1 _ _ o1 h1 fun y dy S2 H2 h2 o2 => hr B S2 σ ts H2 x y dx dy R Q o2 h2 k
theorem snd_un {r : V → Hp → VK → Prop} {g : D1} (ha : SndE P w K ta da) (hr : SndU P w K r g) : SndE P w K (tUn r ta) (dUn g da) := fun B S σ ts H R Q h hd k =>
  ha B S σ ts H _ _ h hd fun x dx S1 H1 h1 o1 => hr B S1 σ ts H1 x dx R Q o1 h1 k
theorem bool_of {x : DV} {R : Bool → Prop} (h : match x with | .imm (.bool b) => R b | _ => False) : ∃ b, x = dB b ∧ R b := by
  cases x with
  | imm d => cases d with
    | bool b => exact ⟨b, rfl, h⟩
    | none => exact h.elim
    | int i => exact h.elim
    | str x => exact h.elim
    | list l => exact h.elim
    | tuple l => exact h.elim
    | dict l => exact h.elim
  | cell _ => exact h.elim
  | raw _ => exact h.elim
  | obj _ => exact h.elim
  | scr _ => exact h.elim
theorem snd_test (ha : SndE P w K ta da) : SndT P w K (tTest ta) (dTest da) := fun B S σ ts H R Q h hd k =>
  ha B S σ ts H _ _ h hd fun x dx S1 H1 h1 o1 => by
    obtain ⟨b, rfl, h2⟩ := bool_of (R := fun b => R b S1) h1
    obtain ⟨F, α, o1⟩ := o1
    exact ⟨b, vok_bl o1.top, k b S1 H1 h2 (o1.sub mem1).ok⟩
theorem snd_tB (ha : SndE P w K ta da) : SndT P w K (tB ta) (dTest da) := snd_test ha
theorem snd_and (ht : SndT P w K tt dt) (hu : SndT P w K tu du) : SndT P w K (tAnd tt tu) (dAnd dt du) := fun B S σ ts H R Q h hd k =>
  ht B S σ ts H _ _ h hd fun b S1 H1 h1 o1 => by
    cases b with
    | true => exact hu B S1 σ ts H1 R Q o1 h1 k
    | false => exact k false S1 H1 h1 o1
theorem snd_or (ht : SndT P w K tt dt) (hu : SndT P w K tu du) : SndT P w K (tOr tt tu) (dOr dt du) := fun B S σ ts H R Q h hd k =>
  ht B S σ ts H _ _ h hd fun b S1 H1 h1 o1 => by
    cases b with
    | false => exact hu B S1 σ ts H1 R Q o1 h1 k
    | true => exact k true S1 H1 h1 o1
theorem snd_not (ht : SndT P w K tt dt) : SndT P w K (tNot tt) (dNot dt) := fun B S σ ts H R Q h hd k =>
  ht B S σ ts H _ _ h hd fun b S1 H1 h1 o1 => k (!b) S1 H1 h1 o1
theorem snd_if (ht : SndT P w K tt dt) (ha : SndE P w K ta da) (hb : SndE P w K tb db) : SndE P w K (tIf tt ta tb) (dIf dt da db) := fun B S σ ts H R Q h hd k =>
  ht B S σ ts H _ _ h hd fun b S1 H1 h1 o1 => by
    cases b with
    | true => exact ha B S1 σ ts H1 R Q o1 h1 k
    | false => exact hb B S1 σ ts H1 R Q o1 h1 k
theorem snd_andV (ha : SndE P w K ta da) (hb : SndE P w K tb db) : SndE P w K (tAndV ta tb) (dAndV da db) := fun B S σ ts H R Q h hd k =>
  ha B S σ ts H _ _ h hd fun x dx S1 H1 h1 o1 => by
    obtain ⟨b, rfl, h2⟩ := bool_of (R := fun b => if b = true then db S1 R else R (dB false) S1) h1
    obtain ⟨F, α, o1⟩ := o1
    refine ⟨b, vok_bl o1.top, ?_⟩
    cases b with
    | true => exact hb B S1 σ ts H1 R Q (o1.sub mem1).ok h2 k
    | false => exact k _ _ S1 H1 h2 ((o1.sub mem1).add vbl).ok
theorem snd_orV (ha : SndE P w K ta da) (hb : SndE P w K tb db) : SndE P w K (tOrV ta tb) (dOrV da db) := fun B S σ ts H R Q h hd k =>
  ha B S σ ts H _ _ h hd fun x dx S1 H1 h1 o1 => by
    obtain ⟨b, rfl, h2⟩ := bool_of (R := fun b => if b = true then R (dB true) S1 else db S1 R) h1
    obtain ⟨F, α, o1⟩ := o1
    refine ⟨b, vok_bl o1.top, ?_⟩
    cases b with
    | false => exact hb B S1 σ ts H1 R Q (o1.sub mem1).ok h2 k
    | true => exact k _ _ S1 H1 h2 ((o1.sub mem1).add vbl).ok
theorem snd_notV (ha : SndE P w K ta da) : SndE P w K (tNotV ta) (dNotV da) := fun B S σ ts H R Q h hd k =>
  ha B S σ ts H _ _ h hd fun x dx S1 H1 h1 o1 => by
    obtain ⟨b, rfl, h2⟩ := bool_of (R := fun b => R (dB (!b)) S1) h1
    obtain ⟨F, α, o1⟩ := o1
    exact ⟨b, vok_bl o1.top, k _ _ S1 H1 h2 ((o1.sub mem1).add vbl).ok⟩
theorem snd_nil : SndA P w K tNil dNil := fun B S σ ts H R Q h hd k => k [] [] S H rfl hd h
theorem snd_cons (ha : SndE P w K ta da) (hr : SndA P w K tr dr) : SndA P w K (tCons ta tr) (dCons da dr) := fun B S σ ts H R Q h hd k =>
  ha B S σ ts H _ _ h hd fun x dx S1 H1 h1 o1 => hr B S1 σ _ H1 _ _ o1 h1 fun xs dxs S2 H2 hl h2 o2 =>
    k (x :: xs) (dx :: dxs) S2 H2 (by simp [hl]) h2 (o2.sub fun p hp => by
      rcases List.mem_append.mp hp with hp | hp
      · rcases List.mem_cons.mp (show p ∈ (x, dx) :: xs.zip dxs from hp) with e | hp
        · subst e; exact List.mem_append_right _ List.mem_cons_self
        · exact List.mem_append_left _ hp
      · exact List.mem_append_right _ (List.mem_cons_of_mem _ hp))
theorem snd_tup (hr : SndA P w K tr dr) : SndE P w K (tTupZ tr) (dTup dr) := fun B S σ ts H R Q h hd k =>
  hr B S σ ts H _ _ h hd fun xs ds S1 H1 hl h1 o1 => by
    obtain ⟨hz, h2⟩ := h1
    refine ⟨by rw [hl]; exact hz, fun p ob hp ho => ?_⟩
    cases e : allImm ds with
    | none => rw [e] at h2; exact h2.elim
    | some ps =>
      rw [e] at h2
      obtain ⟨F, α, o1⟩ := o1
      exact k _ _ S1 _ h2 ((o1.sub memA).newTup hp ho (imms e (o1.args hl))).ok
theorem snd_lst (hr : SndA P w K tr dr) : SndE P w K (tLst tr) (dLst dr) := fun B S σ ts H R Q h hd k =>
  hr B S σ ts H _ _ h hd fun xs ds S1 H1 hl h1 o1 => by
    obtain ⟨hz, h2⟩ := h1
    refine ⟨by rw [hl]; exact hz, fun p hp => ?_⟩
    cases e : allImm ds with
    | none => rw [e] at h2; exact h2.elim
    | some ps =>
      rw [e] at h2
      obtain ⟨F, α, o1⟩ := o1
      exact k _ _ S1 _ h2 ((o1.sub memA).newLst hp (imms e (o1.args hl))).ok
theorem snd_lstC (hr : SndA P w K tr dr) : SndE P w K (tLst tr) (dLstC dr) := fun B S σ ts H R Q h hd k =>
  hr B S σ ts H _ _ h hd fun xs ds S1 H1 hl h1 o1 => by
    obtain ⟨hz, h2⟩ := h1
    refine ⟨by rw [hl]; exact hz, fun p hp => ?_⟩
    obtain ⟨F, α, o1⟩ := o1
    exact k _ _ _ _ h2 ((o1.sub memA).newCell hp (o1.args hl)).ok
theorem snd_cb {r : List V → Hp → VK → Prop} {g : DC1} (hr : SndA P w K tr dr) (hg : SndC P w K r g) : SndE P w K (tCB r tr) (dCB g dr) := fun B S σ ts H R Q h hd k =>
  hr B S σ ts H _ _ h hd fun xs ds S1 H1 hl h1 o1 => hg B S1 σ ts H1 xs ds R Q hl o1 h1 k
end

/-! ### the rules -/
section
variable {X : Cx} {a b e : Expr} {es : List Expr} {da db : DTE} {dt du : DTT} {dr : DTA} {pos : Pos} {g : D2}
theorem dv (i : Nat) {x : Str} {pos : Pos} (hN : X.N[i]? = some x := by rfl) (hv : Vis X.env.scope x := by first | exact Or.inl rfl | exact Or.inr (Or.inl rfl) | exact Or.inr (Or.inr rfl)) (hd : (x == ("__debug__" : Str)) = false := by decide)
    (hcd : (x == ("__classdict__" : Str)) = false := by decide) : DE X (.Name x pos) (dVar i) := ⟨_, pv i hN hv hd hcd, snd_var i⟩
theorem de_int {i : Int} {j pos} : DE X (.Constant (.int i) j pos) (dC (dI i)) := ⟨_, pe_int, snd_c fun _ _ => vint⟩
theorem de_bl {b : Bool} {j pos} : DE X (.Constant (.bool b) j pos) (dC (dB b)) := ⟨_, pe_bl, snd_c fun _ _ => vbl⟩
theorem de_non {j pos} : DE X (.Constant .none j pos) (dC dN) := ⟨_, pe_non, snd_c fun _ _ => vnon⟩
theorem de_str {x : Str} {j pos} : DE X (.Constant (.str x) j pos) (dC (dS x)) := ⟨_, pe_str, snd_c fun _ _ => vstr⟩
/-- a constant of the module -/
theorem de_gint {x : Str} {i : Int} {u : Value} (hg : Gl X x) (hm : X.mg x = some u) (r : RelV (.int i) u) (hd : (x == ("__debug__" : Str)) = false := by decide) : DE X (.Name x pos) (dC (dI i)) := ⟨_, pe_glob hg hm r hd, snd_c fun _ _ => vint⟩
theorem de_gstr {x : Str} {z : Str} {u : Value} (hg : Gl X x) (hm : X.mg x = some u) (r : RelV (.str z) u) (hd : (x == ("__debug__" : Str)) = false := by decide) : DE X (.Name x pos) (dC (dS z)) := ⟨_, pe_glob hg hm r hd, snd_c fun _ _ => vstr⟩
theorem de_graw {x : Str} {v : V} {u : Value} (hg : Gl X x) (hm : X.mg x = some u) (r : RelV v u) (hd : (x == ("__debug__" : Str)) = false := by decide) : DE X (.Name x pos) (dC (.raw v)) := ⟨_, pe_glob hg hm r hd, snd_c fun _ _ => rfl⟩
theorem de_braw {x : Str} {v : V} {u : Value} (hg : Gl X x) (hm : X.mg x = none) (hv : bootBuiltins x = some u) (r : RelV v u) (hn : x ≠ "__name__" := by decide) (hd : (x == ("__debug__" : Str)) = false := by decide) : DE X (.Name x pos) (dC (.raw v)) := ⟨_, pe_bltn hg hm hv r hn hd, snd_c fun _ _ => rfl⟩
theorem de_op {op : Operator} (o : OpD X (binaryOp op) g) (ha : DE X a da) (hb : DE X b db) : DE X (.BinOp a op b pos) (dOp g da db) := by
  obtain ⟨r, o1, o2⟩ := o.ex
  obtain ⟨ta, a1, a2⟩ := ha.ex
  obtain ⟨tb, b1, b2⟩ := hb.ex
  exact ⟨_, pe_op o1 a1 b1, snd_op a2 b2 o2⟩
theorem de_un {op : UnaryOp} {g1 : D1} (o : UnD X (unaryOp op) g1) (ha : DE X a da) : DE X (.UnaryOp op a pos) (dUn g1 da) := by
  obtain ⟨r, o1, o2⟩ := o.ex
  obtain ⟨ta, a1, a2⟩ := ha.ex
  exact ⟨_, pe_un o1 a1, snd_un a2 o2⟩
theorem de_cmp {op : CmpOp} (o : OpD X (compareOp op) g) (ha : DE X a da) (hb : DE X b db) (hm : behindInMarks op b = false := by first | exact nobehind _ (by decide) (by decide) | rfl) : DE X (.Compare a [op] [b] pos) (dOp g da db) := by
  obtain ⟨r, o1, o2⟩ := o.ex
  obtain ⟨ta, a1, a2⟩ := ha.ex
  obtain ⟨tb, b1, b2⟩ := hb.ex
  exact ⟨_, pe_cmpR o1 a1 b1 hm, snd_op a2 b2 o2⟩
theorem dt_cmp {op : CmpOp} (o : OpD X (compareOp op) g) (ha : DE X a da) (hb : DE X b db) (hm : behindInMarks op b = false := by first | exact nobehind _ (by decide) (by decide) | rfl) : DT X (.Compare a [op] [b] pos) (dTest (dOp g da db)) := by
  obtain ⟨r, o1, o2⟩ := o.ex
  obtain ⟨ta, a1, a2⟩ := ha.ex
  obtain ⟨tb, b1, b2⟩ := hb.ex
  exact ⟨_, pt_cmpR o1 a1 b1 hm, snd_test (snd_op a2 b2 o2)⟩
/-- an expression that gives a bool, as a test -/
theorem dt_val (ha : DE X e da) (he : ∀ whole, isTrue e X.env whole = (do let v ← whole; standAt e.pos; holding [v] (truthy v)) := by intro _; rfl) : DT X e (dTest da) := by
  obtain ⟨ta, a1, a2⟩ := ha.ex
  exact ⟨_, pt_val a1 he, snd_tB a2⟩
theorem dw_and1 (ha : DT X a dt) : DW X (.BoolOp .And [a] pos) dt := by
  obtain ⟨ta, a1, a2⟩ := ha.ex
  exact ⟨_, pw_and1 a1, a2⟩
theorem dw_or1 (ha : DT X a dt) : DW X (.BoolOp .Or [a] pos) dt := by
  obtain ⟨ta, a1, a2⟩ := ha.ex
  exact ⟨_, pw_or1 a1, a2⟩
theorem dw_and {rest : List Expr} (ha : DT X a dt) (hb : DW X (.BoolOp .And (b :: rest) pos) du) : DW X (.BoolOp .And (a :: b :: rest) pos) (dAnd dt du) := by
  obtain ⟨ta, a1, a2⟩ := ha.ex
  obtain ⟨tb, b1, b2⟩ := hb.ex
  exact ⟨_, pw_and a1 b1, snd_and a2 b2⟩
theorem dw_or {rest : List Expr} (ha : DT X a dt) (hb : DW X (.BoolOp .Or (b :: rest) pos) du) : DW X (.BoolOp .Or (a :: b :: rest) pos) (dOr dt du) := by
  obtain ⟨ta, a1, a2⟩ := ha.ex
  obtain ⟨tb, b1, b2⟩ := hb.ex
  exact ⟨_, pw_or a1 b1, snd_or a2 b2⟩
theorem DW.t (h : DW X e dt) : DT X e dt := by
  obtain ⟨t, a1, a2⟩ := h.ex
  exact ⟨_, a1.pt, a2⟩
theorem dt_not (ha : DT X a dt) : DT X (.UnaryOp .Not a pos) (dNot dt) := by
  obtain ⟨t, a1, a2⟩ := ha.ex
  exact ⟨_, pt_not a1, snd_not a2⟩
theorem de_one {op} (ha : DE X a da) : DE X (.BoolOp op [a] pos) da := by
  obtain ⟨t, a1, a2⟩ := ha.ex
  exact ⟨_, pe_one a1, a2⟩
theorem de_and {rest : List Expr} (ha : DE X a da) (hb : DE X (.BoolOp .And (b :: rest) pos) db) : DE X (.BoolOp .And (a :: b :: rest) pos) (dAndV da db) := by
  obtain ⟨ta, a1, a2⟩ := ha.ex
  obtain ⟨tb, b1, b2⟩ := hb.ex
  exact ⟨_, pe_and a1 b1, snd_andV a2 b2⟩
theorem de_or {rest : List Expr} (ha : DE X a da) (hb : DE X (.BoolOp .Or (b :: rest) pos) db) : DE X (.BoolOp .Or (a :: b :: rest) pos) (dOrV da db) := by
  obtain ⟨ta, a1, a2⟩ := ha.ex
  obtain ⟨tb, b1, b2⟩ := hb.ex
  exact ⟨_, pe_or a1 b1, snd_orV a2 b2⟩
theorem de_not (ha : DE X a da) : DE X (.UnaryOp .Not a pos) (dNotV da) := by
  obtain ⟨ta, a1, a2⟩ := ha.ex
  exact ⟨_, pe_not a1, snd_notV a2⟩
theorem de_if {c : Expr} (hc : DT X c dt) (ha : DE X a da) (hb : DE X b db) : DE X (.IfExp c a b pos) (dIf dt da db) := by
  obtain ⟨tc, c1, c2⟩ := hc.ex
  obtain ⟨ta, a1, a2⟩ := ha.ex
  obtain ⟨tb, b1, b2⟩ := hb.ex
  exact ⟨_, pe_ifExp c1 a1 b1, snd_if c2 a2 b2⟩
theorem da_nil : DA X [] dNil := ⟨_, pa_nil, snd_nil⟩
theorem da_cons (ha : DE X e da) (hr : DA X es dr) (hs : starEach (e :: es) X.env = (false, eval e X.env) :: starEach es X.env := by rfl) : DA X (e :: es) (dCons da dr) := by
  obtain ⟨ta, a1, a2⟩ := ha.ex
  obtain ⟨tr, b1, b2⟩ := hr.ex
  exact ⟨_, pa_cons a1 b1 hs, snd_cons a2 b2⟩
theorem de_tup {x1} (h : DA X es dr) : DE X (.Tuple es x1 pos) (dTup dr) := by
  obtain ⟨t, a1, a2⟩ := h.ex
  exact ⟨_, pe_tupZ a1, snd_tup a2⟩
theorem de_lst (h : DA X es dr) : DE X (.List es pos) (dLst dr) := by
  obtain ⟨t, a1, a2⟩ := h.ex
  exact ⟨_, pe_lst a1, snd_lst a2⟩
theorem de_lstC (h : DA X es dr) : DE X (.List es pos) (dLstC dr) := by
  obtain ⟨t, a1, a2⟩ := h.ex
  exact ⟨_, pe_lst a1, snd_lstC a2⟩
/-- f(e, ..), f a built-in function; a built-in class -/
theorem de_cb {id : String} {x : Str} {p : Pos} {gc : DC1} (hc : CallD X (.builtin id) gc) (hg : Gl X x) (hm : X.mg x = none) (hv : bootBuiltins x = some (.builtin id)) (ha : DA X (e :: es) dr) (hn : x ≠ "__name__" := by decide) (hdb : (x == ("__debug__" : Str)) = false := by decide)
    (he : starEach (e :: es) X.env = (false, eval e X.env) :: starEach es X.env := by rfl) (hpl : (backTo pos (starEach es X.env)).any (·.1) = false := by rfl) : DE X (.Call (.Name x p) (e :: es) [] pos) (dCB gc dr) := by
  obtain ⟨r, c1, c2⟩ := hc.ex
  obtain ⟨ta, a1, a2⟩ := ha.ex
  exact ⟨_, pe_callB c1 hg hm hv a1 hn hdb he hpl, snd_cb a2 c2⟩
theorem de_ct {T : String} {x : Str} {p : Pos} {gc : DC1} (hc : CallD X (.type T) gc) (hg : Gl X x) (hm : X.mg x = none) (hv : bootBuiltins x = some (.type T)) (ha : DA X (e :: es) dr) (hn : x ≠ "__name__" := by decide) (hdb : (x == ("__debug__" : Str)) = false := by decide)
    (he : starEach (e :: es) X.env = (false, eval e X.env) :: starEach es X.env := by rfl) (hpl : (backTo pos (starEach es X.env)).any (·.1) = false := by rfl) : DE X (.Call (.Name x p) (e :: es) [] pos) (dCB gc dr) := by
  obtain ⟨r, c1, c2⟩ := hc.ex
  obtain ⟨ta, a1, a2⟩ := ha.ex
  exact ⟨_, pe_callTy c1 hg hm hv a1 hn hdb he hpl, snd_cb a2 c2⟩
end
end DL

set_option Elab.async false
set_option linter.all false
set_option maxRecDepth 100000
set_option autoImplicit false
set_option maxHeartbeats 1000000
namespace DL
open PySem PySem.Spec L2

/-! ## what a reading is -/
def DV.int? : DV → Option Int
  | .imm (.int i) => some i
  | _ => none
def DV.str? : DV → Option Str
  | .imm (.str i) => some i
  | _ => none
def DV.tup? : DV → Option (List PyData)
  | .imm (.tuple i) => some i
  | _ => none
def DV.imm? : DV → Option PyData
  | .imm d => some d
  | _ => none
theorem int?_eq {x : DV} {i : Int} (h : x.int? = some i) : x = dI i := by
  cases x with
  | imm d => cases d <;> first | (cases h; rfl) | cases h
  | _ => cases h
theorem str?_eq {x : DV} {i : Str} (h : x.str? = some i) : x = dS i := by
  cases x with
  | imm d => cases d <;> first | (cases h; rfl) | cases h
  | _ => cases h
theorem tup?_eq {x : DV} {i : List PyData} (h : x.tup? = some i) : x = .imm (.tuple i) := by
  cases x with
  | imm d => cases d <;> first | (cases h; rfl) | cases h
  | _ => cases h
theorem imm?_eq {x : DV} {i : PyData} (h : x.imm? = some i) : x = .imm i := by
  cases x with
  | imm d => cases h; rfl
  | _ => cases h
def MulOk (i j : Int) : Prop := CMul i j ∨ CMulW i j
def DivOk (_ j : Int) : Prop := 0 < j ∧ j.natAbs.log2 < 9000
def PowOk (i j : Int) : Prop := 0 ≤ j ∧ (Builtin.Int.intBits i : Int) * j ≤ 2 ^ 27

/-! ### the data side of the operators -/
def gII (C : Int → Int → Prop) (f : Int → Int → DV) : D2 := fun x y S R => match x.int?, y.int? with
  | some i, some j => C i j ∧ R (f i j) S
  | _, _ => False
def gAdd : D2 := fun x y S R => match x.int?, y.int? with
  | some i, some j => R (dI (i + j)) S
  | _, _ => match x.str?, y.str? with
    | some a, some b => a.length + b.length ≤ sizeLine ∧ R (dS (a ++ b)) S
    | _, _ => match x.tup?, y.tup? with
      | some a, some b => a.length + b.length ≤ sizeLine ∧ R (.imm (.tuple (a ++ b))) S
      | _, _ => match S.lst x, S.lst y with
        | some a, some b => a.length + b.length ≤ sizeLine ∧ match allImm (a ++ b) with
          | some ps => R (.imm (.list ps)) S
          | none => False
        | _, _ => False
/-- list + list that becomes a cell -/
def gAddC : D2 := fun x y S R => match S.lst x, S.lst y with
  | some a, some b => a.length + b.length ≤ sizeLine ∧ R (.cell S.μ.length) (S.new (.lst (a ++ b)))
  | _, _ => False
def gSub : D2 := fun x y S R => match x.int?, y.int? with
  | some i, some j => R (dI (i - j)) S
  | _, _ => False
def gCmp (f : Int → Int → Bool) : D2 := fun x y S R => match x.int?, y.int? with
  | some i, some j => R (dB (f i j)) S
  | _, _ => False
def gEq : D2 := fun x y S R => match x.imm?, y.imm? with
  | some d, some e => (SeqAt.shaped d && SeqAt.shaped e) = true ∧ R (dB (PyData.eqv d e)) S
  | _, _ => False
def gNe : D2 := fun x y S R => match x.imm?, y.imm? with
  | some d, some e => (SeqAt.shaped d && SeqAt.shaped e) = true ∧ R (dB (!PyData.eqv d e)) S
  | _, _ => False
def isNone : DV → Option Bool
  | .imm .none => some true
  | .imm _ => some false
  | .cell _ => some false
  | .obj _ => some false
  | .scr _ => some false
  | .raw v => some (decide (v = .non))
def gIsN : D2 := fun x y S R => match y with
  | .imm .none => match isNone x with
    | some b => R (dB b) S
    | none => False
  | _ => False
def gNotN : D2 := fun x y S R => match y with
  | .imm .none => match isNone x with
    | some b => R (dB (!b)) S
    | none => False
  | _ => False
def flatD : PyData → Bool
  | .none => true
  | .bool _ => true
  | .int _ => true
  | .str _ => true
  | _ => false
def inD (d : PyData) (ps : List PyData) : Bool := ps.any fun e => PyData.eqv e d
/-- x in a list or tuple -/
def gIn (neg : Bool) : D2 := fun x y S R => match x.imm?, S.seq y with
  | some d, some (b, ds) => match allImm ds with
    | some ps => ((flatD d && ps.all flatD) = true ∨ (b = true ∧ (SeqAt.shaped d && SeqAt.shaped (.list ps)) = true)) ∧ R (dB (if neg = true then !inD d ps else inD d ps)) S
    | none => False
  | _, _ => False

section
variable {P : Program} {w : World} {K : PySem.W.Frag} {B : Bs} {S S' : DSt} {σ : St} {ts : List (V × DV)} {H F F' : Hp} {α : List Addr} {v : V} {d : DV}
theorem snd_II {C : Int → Int → Prop} {f : Int → Int → DV} {fv : Int → Int → V} (hf : ∀ i j (F : Hp) (α : List Addr), VOk P w K F α (fv i j) (f i j)) : SndR P w K (rI C fv) (gII C f) := fun B S σ ts H x y dx dy R Q h hd k => by
  obtain ⟨F, α, h⟩ := h
  unfold gII at hd
  cases e1 : dx.int? with
  | none => rw [e1] at hd; exact hd.elim
  | some i =>
    cases e2 : dy.int? with
    | none => rw [e1, e2] at hd; exact hd.elim
    | some j =>
      rw [e1, e2] at hd
      rw [int?_eq e1] at h
      rw [int?_eq e2] at h
      exact ⟨i, j, vok_int h.top2, vok_int h.top, hd.1, k _ _ S H hd.2 ((h.sub mem2).add (hf i j F α)).ok⟩
theorem rI0_I {g : Int → Int → V} {x y : V} {H : Hp} {Q : VK} (h : rI (fun _ _ => True) g x y H Q) : rI0 g x y H Q := by
  obtain ⟨i, j, e1, e2, _, q⟩ := h
  exact ⟨i, j, e1, e2, q⟩
theorem snd_cmp {f : Int → Int → Bool} : SndR P w K (rI0 fun i j => .bl (f i j)) (gCmp f) := fun B S σ ts H x y dx dy R Q h hd k => by
  obtain ⟨F, α, h⟩ := h
  unfold gCmp at hd
  cases e1 : dx.int? with
  | none => rw [e1] at hd; exact hd.elim
  | some i =>
    cases e2 : dy.int? with
    | none => rw [e1, e2] at hd; exact hd.elim
    | some j =>
      rw [e1, e2] at hd
      rw [int?_eq e1, int?_eq e2] at h
      exact ⟨i, j, vok_int h.top2, vok_int h.top, k _ _ S H hd ((h.sub mem2).add vbl).ok⟩
mutual
theorem dp_lay (e : Ex F H) : ∀ (d : PyData) {v : V}, d.canLay0 = true → Rp P w K F v d → Dp K H v d
  | .none, _, _, r => by cases r; exact .non
  | .bool b, _, _, r => by cases r; exact .bl b
  | .int i, _, _, r => by cases r; exact .int i
  | .str x, _, _, r => by cases r; exact .str x
  | .list xs, _, hc, r => by
    cases r with
    | lst h1 h2 => exact .lst (SqL.of (e _ _ h1)) (dp_layAll e xs (by simpa only [PyData.canLay0] using hc) h2)
  | .tuple xs, _, hc, r => by
    cases r with
    | tup h1 h2 => exact .tup (h1.up e).t (dp_layAll e xs (by simpa only [PyData.canLay0] using hc) h2)
  | .dict kvs, _, hc, _ => absurd (show PyData.canLay0 (.dict kvs) = true from hc) (by simp [PyData.canLay0])
theorem dp_layAll (e : Ex F H) : ∀ (ds : List PyData) {vs : List V}, PyData.canLayAll0 ds = true → RpAll P w K F vs ds → DpAll K H vs ds
  | [], _, _, r => by cases r; exact .nil
  | d :: ds, _, hc, r => by
    cases r with
    | cons h1 h2 =>
      simp only [PyData.canLayAll0, Bool.and_eq_true] at hc
      exact .cons (dp_lay e d hc.1 h1) (dp_layAll e ds hc.2 h2)
end
theorem dp_of {d : PyData} {v : V} (hs : SeqAt.shaped d = true) (r : Rp P w K F v d) (e : Ex F H) : Dp K H v d := dp_lay e d (SeqAt.canLay_of_shaped hs) r
theorem snd_eqD : SndR P w K (rEqD K) gEq := fun B S σ ts H x y dx dy R Q h hd k => by
  obtain ⟨F, α, h⟩ := h
  unfold gEq at hd
  cases e1 : dx.imm? with
  | none => rw [e1] at hd; exact hd.elim
  | some i =>
    cases e2 : dy.imm? with
    | none => rw [e1, e2] at hd; exact hd.elim
    | some j =>
      rw [e1, e2] at hd
      rw [imm?_eq e1, imm?_eq e2] at h
      obtain ⟨s1, s2⟩ := Bool.and_eq_true_iff.mp hd.1
      exact ⟨i, j, dp_of s1 h.top2 h.fh, dp_of s2 h.top h.fh, s1, s2, k _ _ S H hd.2 ((h.sub mem2).add vbl).ok⟩
theorem snd_neD : SndR P w K (rNeD K) gNe := fun B S σ ts H x y dx dy R Q h hd k => by
  obtain ⟨F, α, h⟩ := h
  unfold gNe at hd
  cases e1 : dx.imm? with
  | none => rw [e1] at hd; exact hd.elim
  | some i =>
    cases e2 : dy.imm? with
    | none => rw [e1, e2] at hd; exact hd.elim
    | some j =>
      rw [e1, e2] at hd
      rw [imm?_eq e1, imm?_eq e2] at h
      obtain ⟨s1, s2⟩ := Bool.and_eq_true_iff.mp hd.1
      exact ⟨i, j, dp_of s1 h.top2 h.fh, dp_of s2 h.top h.fh, s1, s2, k _ _ S H hd.2 ((h.sub mem2).add vbl).ok⟩
theorem isNone_ok {x : V} {dx : DV} {b : Bool} (h : VOk P w K F α x dx) (e : isNone dx = some b) : decide (x = .non) = b := by
  cases dx with
  | imm d =>
    cases d with
    | none => cases h; cases e; exact decide_eq_true rfl
    | bool _ => cases h; cases e; exact decide_eq_false (fun z => by cases z)
    | int _ => cases h; cases e; exact decide_eq_false (fun z => by cases z)
    | str _ => cases h; cases e; exact decide_eq_false (fun z => by cases z)
    | list _ => cases h; cases e; exact decide_eq_false (fun z => by cases z)
    | tuple _ => cases h; cases e; exact decide_eq_false (fun z => by cases z)
    | dict _ => cases h; cases e; exact decide_eq_false (fun z => by cases z)
  | cell _ => obtain ⟨a, _, rfl⟩ := h; cases e; exact decide_eq_false (fun z => by cases z)
  | obj _ => obtain ⟨a, rfl, _⟩ := h; cases e; exact decide_eq_false (fun z => by cases z)
  | scr _ => obtain ⟨a, rfl, _⟩ := h; cases e; exact decide_eq_false (fun z => by cases z)
  | raw u => cases h; cases e; rfl
theorem none_of {y : DV} {R : Prop} (h : match y with | .imm .none => R | _ => False) : y = dN ∧ R := by
  cases y with
  | imm d => cases d <;> first | exact ⟨rfl, h⟩ | exact h.elim
  | _ => exact h.elim
theorem snd_isN : SndR P w K (fun x y H Q => y = .non ∧ Q (.bl (decide (x = .non))) H) gIsN := fun B S σ ts H x y dx dy R Q h hd k => by
  obtain ⟨F, α, h⟩ := h
  obtain ⟨rfl, h2⟩ := none_of (R := match isNone dx with | some b => R (dB b) S | none => False) hd
  cases e : isNone dx with
  | none => rw [e] at h2; exact h2.elim
  | some b =>
    rw [e] at h2
    refine ⟨vok_non h.top, ?_⟩
    rw [isNone_ok h.top2 e]
    exact k _ _ S H h2 ((h.sub mem2).add vbl).ok
theorem snd_notN : SndR P w K (fun x y H Q => y = .non ∧ Q (.bl (!decide (x = .non))) H) gNotN := fun B S σ ts H x y dx dy R Q h hd k => by
  obtain ⟨F, α, h⟩ := h
  obtain ⟨rfl, h2⟩ := none_of (R := match isNone dx with | some b => R (dB (!b)) S | none => False) hd
  cases e : isNone dx with
  | none => rw [e] at h2; exact h2.elim
  | some b =>
    rw [e] at h2
    refine ⟨vok_non h.top, ?_⟩
    rw [isNone_ok h.top2 e]
    exact k _ _ S H h2 ((h.sub mem2).add vbl).ok
theorem flat_ok {x : V} {d : PyData} (h : Rp P w K F x d) (hf : flatD d = true) : flatV x = true := by
  cases h <;> first | rfl | (exact absurd hf Bool.false_ne_true)
theorem eqV_ok {x y : V} {d e : PyData} (h : Rp P w K F x d) (g : Rp P w K F y e) (hf : flatD d = true) (hg : flatD e = true) : eqV x y = PyData.eqv d e := by
  cases h <;> first
    | (exact absurd hf Bool.false_ne_true)
    | (cases g <;> first | (exact absurd hg Bool.false_ne_true) | rfl | simp [eqV, PyData.eqv])
theorem flats_ok : ∀ {xs : List V} {ps : List PyData}, RpAll P w K F xs ps → ps.all flatD = true → xs.all flatV = true
  | _, _, .nil, _ => rfl
  | _, _, .cons h r, e => by
    rw [List.all_cons, Bool.and_eq_true] at e
    rw [List.all_cons, Bool.and_eq_true]
    exact ⟨flat_ok h e.1, flats_ok r e.2⟩
theorem inV_ok {x : V} {d : PyData} (h : Rp P w K F x d) (hf : flatD d = true) : ∀ {xs : List V} {ps : List PyData}, RpAll P w K F xs ps → ps.all flatD = true → inV x xs = inD d ps
  | _, _, .nil, _ => rfl
  | _, _, .cons g r, e => by
    rw [List.all_cons, Bool.and_eq_true] at e
    have ih := inV_ok h hf r e.2
    unfold inV at ih ⊢
    unfold inD at ih ⊢
    rw [List.any_cons, List.any_cons, ih, eqV_ok g h e.1 hf]
theorem snd_in (neg : Bool) : SndR P w K (fun x y H Q => rIn K neg x y H Q ∨ (if neg = true then rNotInD K x y H Q else rInD K x y H Q)) (gIn neg) := fun B S σ ts H x y dx dy R Q h hd k => by
  obtain ⟨F, α, h⟩ := h
  unfold gIn at hd
  cases e1 : dx.imm? with
  | none => rw [e1] at hd; exact hd.elim
  | some d =>
    cases e2 : S.seq dy with
    | none => rw [e1, e2] at hd; exact hd.elim
    | some p =>
      obtain ⟨b, ds⟩ := p
      rw [e1, e2] at hd
      dsimp only at hd
      cases e3 : allImm ds with
      | none => rw [e3] at hd; exact hd.elim
      | some ps =>
        rw [e3] at hd
        obtain ⟨hc, hd⟩ := hd
        have hx : Rp P w K F x d := by
          have := h.top2
          rw [imm?_eq e1] at this
          exact this
        obtain ⟨a, xs, rfl, hq, hp⟩ := h.seq h.top e2
        have hr := imms e3 hp
        have kk : Q (.bl (if neg = true then !inD d ps else inD d ps)) H := k _ _ S H hd ((h.sub mem2).add vbl).ok
        by_cases hfl : (flatD d && ps.all flatD) = true
        · obtain ⟨f1, f2⟩ := Bool.and_eq_true_iff.mp hfl
          refine .inl ⟨a, xs, rfl, ?_, flat_ok hx f1, flats_ok hr f2, ?_⟩
          · cases b with
            | true => exact .inl hq
            | false => exact .inr hq
          · rw [inV_ok hx f1 hr f2]; exact kk
        · rcases hc with hc | ⟨rfl, hc⟩
          · exact absurd hc hfl
          · obtain ⟨s1, s2⟩ := Bool.and_eq_true_iff.mp hc
            have dd : Dp K H (.ref a) (.list ps) := .lst hq (dp_layAll h.fh ps (by have := SeqAt.canLay_of_shaped s2; simpa only [PyData.canLay0] using this) hr)
            refine .inr ?_
            cases neg with
            | true => exact ⟨d, ps, dp_of s1 hx h.fh, dd, s1, s2, kk⟩
            | false => exact ⟨d, ps, dp_of s1 hx h.fh, dd, s1, s2, kk⟩
end
end DL

set_option Elab.async false
set_option linter.all false
set_option maxRecDepth 100000
set_option autoImplicit false
set_option maxHeartbeats 1000000
namespace DL
open PySem PySem.Spec L2

/-! ## operators, ready -/
section
variable {P : Program} {w : World} {K : PySem.W.Frag} {B : Bs} {S S' : DSt} {σ : L2.St} {ts : List (V × DV)} {H F F' : Hp} {α : List Addr} {v : V} {d : DV}
theorem rp_tup {xs : V} {ps : List PyData} (h : VOk P w K F α xs (.imm (.tuple ps))) : ∃ a ys, xs = .ref a ∧ TupZ F a ys ∧ RpAll P w K F ys ps := by
  cases h with
  | tup h1 h2 => exact ⟨_, _, rfl, h1, h2⟩
theorem RpAll.app {xs ys : List V} {ps qs : List PyData} (h : RpAll P w K F xs ps) (g : RpAll P w K F ys qs) : RpAll P w K F (xs ++ ys) (ps ++ qs) := by
  induction xs generalizing ps with
  | nil => cases h; exact g
  | cons x xs ih => cases h with
    | cons h1 h2 => exact .cons h1 (ih h2)
theorem RpAll.take {xs : List V} {ps : List PyData} (h : RpAll P w K F xs ps) (n : Nat) : RpAll P w K F (xs.take n) (ps.take n) := by
  have := Paired.take' n (paired_imm (α := []) h)
  rw [← List.map_take] at this
  exact imm_paired this
theorem RpAll.drop {xs : List V} {ps : List PyData} (h : RpAll P w K F xs ps) (n : Nat) : RpAll P w K F (xs.drop n) (ps.drop n) := by
  have := Paired.drop' n (paired_imm (α := []) h)
  rw [← List.map_drop] at this
  exact imm_paired this
theorem RpAll.rev {xs : List V} {ps : List PyData} (h : RpAll P w K F xs ps) : RpAll P w K F xs.reverse ps.reverse := by
  have := Paired.rev' (paired_imm (α := []) h)
  rw [← List.map_reverse] at this
  exact imm_paired this
theorem StAt.freeF {p : Addr} (h : StAt P w K B S σ ts H F α) (hp : H p = none) : F p = none := by
  cases q : F p with
  | none => rfl
  | some u => have := h.fh p u q; rw [hp] at this; cases this
theorem snd_add : SndR P w K (fun x y H Q => rI0 (fun i j => .int (i + j)) x y H Q ∨ (∃ i j, x = V.str i ∧ y = V.str j ∧ i.length + j.length ≤ sizeLine ∧ Q (.str (i ++ j)) H) ∨ rCatZ K x y H Q ∨ rCat x y H Q) gAdd := fun B S σ ts H x y dx dy R Q h hd k => by
  obtain ⟨F, α, h⟩ := h
  unfold gAdd at hd
  split at hd
  · rename_i i j e1 e2
    rw [int?_eq e1, int?_eq e2] at h
    exact .inl ⟨i, j, vok_int h.top2, vok_int h.top, k _ _ S H hd ((h.sub mem2).add vint).ok⟩
  · split at hd
    · rename_i a b e1 e2
      rw [str?_eq e1, str?_eq e2] at h
      exact .inr (.inl ⟨a, b, vok_str h.top2, vok_str h.top, hd.1, k _ _ S H hd.2 ((h.sub mem2).add vstr).ok⟩)
    · split at hd
      · rename_i a b e1 e2
        rw [tup?_eq e1, tup?_eq e2] at h
        obtain ⟨p, xs, rfl, tx, rx⟩ := rp_tup h.top2
        obtain ⟨q, ys, rfl, ty, ry⟩ := rp_tup h.top
        obtain ⟨hz, hd⟩ := hd
        refine .inr (.inr (.inl ⟨p, q, xs, ys, rfl, rfl, (tx.up h.fh).t, (ty.up h.fh).t, by rw [rx.length, ry.length]; exact hz, fun e => ?_, fun e => ?_, fun r ob hr ho => ?_⟩))
        · subst e
          cases rx
          exact k _ _ S H hd ((h.sub mem2).add (v := .ref q) (d := .imm (.tuple b)) (Rp.tup ty ry)).ok
        · subst e
          cases ry
          rw [List.append_nil] at hd
          exact k _ _ S H hd ((h.sub mem2).add (v := .ref p) (d := .imm (.tuple a)) (Rp.tup tx rx)).ok
        · exact k _ _ S _ hd ((h.sub mem2).newTup hr ho (rx.app ry)).ok
      · split at hd
        · rename_i a b e1 e2
          obtain ⟨hz, hd⟩ := hd
          obtain ⟨p, xs, rfl, tx, rx⟩ := h.lst h.top2 e1
          obtain ⟨q, ys, rfl, ty, ry⟩ := h.lst h.top e2
          refine .inr (.inr (.inr ⟨p, q, xs, ys, rfl, rfl, tx, ty, by rw [Paired.length rx, Paired.length ry]; exact hz, fun r hr => ?_⟩))
          cases e3 : allImm (a ++ b) with
          | none => rw [e3] at hd; exact hd.elim
          | some ps =>
            rw [e3] at hd
            exact k _ _ S _ hd ((h.sub mem2).newLst hr (imms e3 (Paired.app' rx ry))).ok
        · exact hd.elim
theorem snd_addC : SndR P w K rCat gAddC := fun B S σ ts H x y dx dy R Q h hd k => by
  obtain ⟨F, α, h⟩ := h
  unfold gAddC at hd
  split at hd
  · rename_i a b e1 e2
    obtain ⟨hz, hd⟩ := hd
    obtain ⟨p, xs, rfl, tx, rx⟩ := h.lst h.top2 e1
    obtain ⟨q, ys, rfl, ty, ry⟩ := h.lst h.top e2
    exact ⟨p, q, xs, ys, rfl, rfl, tx, ty, by rw [Paired.length rx, Paired.length ry]; exact hz, fun r hr => k _ _ _ _ hd ((h.sub mem2).newCell hr (Paired.app' rx ry)).ok⟩
  · exact hd.elim
theorem snd_sub : SndR P w K (rI0 fun i j => .int (i - j)) gSub := fun B S σ ts H x y dx dy R Q h hd k => by
  obtain ⟨F, α, h⟩ := h
  unfold gSub at hd
  split at hd
  · rename_i i j e1 e2
    rw [int?_eq e1, int?_eq e2] at h
    exact ⟨i, j, vok_int h.top2, vok_int h.top, k _ _ S H hd ((h.sub mem2).add vint).ok⟩
  · exact hd.elim
/-- i * j; [..] * j -/
def gMul : D2 := fun x y S R => match x.int?, y.int? with
  | some i, some j => MulOk i j ∧ R (dI (i * j)) S
  | _, _ => match S.lst x, y.int? with
    | some a, some j => (0 ≤ j ∧ j < 2 ^ 63 ∧ a.length * j.toNat ≤ sizeLine) ∧ match allImm a with
      | some ps => R (.imm (.list (List.replicate j.toNat ps).flatten)) S
      | none => False
    | _, _ => False
theorem RpAll.rep {xs : List V} {ps : List PyData} (h : RpAll P w K F xs ps) : ∀ n : Nat, RpAll P w K F (List.replicate n xs).flatten (List.replicate n ps).flatten
  | 0 => .nil
  | n + 1 => by
    rw [List.replicate_succ, List.replicate_succ, List.flatten_cons, List.flatten_cons]
    exact h.app (RpAll.rep h n)
theorem snd_mul : SndR P w K (fun x y H Q => (rI CMul (fun i j => .int (i * j)) x y H Q ∨ rI CMulW (fun i j => .int (i * j)) x y H Q) ∨ rRep x y H Q) gMul := fun B S σ ts H x y dx dy R Q h hd k => by
  obtain ⟨F, α, h⟩ := h
  unfold gMul at hd
  split at hd
  · rename_i i j e1 e2
    rw [int?_eq e1, int?_eq e2] at h
    rcases hd.1 with c | c
    · exact .inl (.inl ⟨i, j, vok_int h.top2, vok_int h.top, c, k _ _ S H hd.2 ((h.sub mem2).add vint).ok⟩)
    · exact .inl (.inr ⟨i, j, vok_int h.top2, vok_int h.top, c, k _ _ S H hd.2 ((h.sub mem2).add vint).ok⟩)
  · split at hd
    · rename_i a j e1 e2
      obtain ⟨⟨h0, h1, h2⟩, hd⟩ := hd
      rw [int?_eq e2] at h
      obtain ⟨p, xs, rfl, tx, rx⟩ := h.lst h.top2 e1
      refine .inr ⟨p, j, xs, rfl, vok_int h.top, tx, by omega, h1, by rw [Paired.length rx]; exact h2, fun r hr => ?_⟩
      cases e3 : allImm a with
      | none => rw [e3] at hd; exact hd.elim
      | some ps =>
        rw [e3] at hd
        exact k _ _ S _ hd ((h.sub mem2).newLst hr ((imms e3 rx).rep _)).ok
    · exact hd.elim
/-- [..] * j that becomes a cell -/
def gMulC : D2 := fun x y S R => match S.lst x, y.int? with
  | some a, some j => (0 ≤ j ∧ j < 2 ^ 63 ∧ a.length * j.toNat ≤ sizeLine) ∧ match allImm a with
    | some ps => R (.cell S.μ.length) (S.new (.lst ((List.replicate j.toNat ps).flatten.map DV.imm)))
    | none => False
  | _, _ => False
theorem snd_mulC : SndR P w K rRep gMulC := fun B S σ ts H x y dx dy R Q h hd k => by
  obtain ⟨F, α, h⟩ := h
  unfold gMulC at hd
  split at hd
  · rename_i a j e1 e2
    obtain ⟨⟨h0, h1, h2⟩, hd⟩ := hd
    rw [int?_eq e2] at h
    obtain ⟨p, xs, rfl, tx, rx⟩ := h.lst h.top2 e1
    refine ⟨p, j, xs, rfl, vok_int h.top, tx, by omega, h1, by rw [Paired.length rx]; exact h2, fun r hr => ?_⟩
    cases e3 : allImm a with
    | none => rw [e3] at hd; exact hd.elim
    | some ps =>
      rw [e3] at hd
      exact k _ _ _ _ hd ((h.sub mem2).newCell hr (paired_imm ((imms e3 rx).rep _))).ok
  · exact hd.elim
end
def gFdiv : D2 := gII DivOk fun i j => dI (i / j)
def gMod : D2 := gII (fun _ j => 0 < j) fun i j => dI (i % j)
def gPow : D2 := gII PowOk fun i j => dI (i ^ j.toNat)
section
variable {X : Cx}
theorem od_add : OpD X (binaryOp .Add) gAdd := ⟨_, .or op_add (.or op_add_str (.or op_catZ op_cat)), snd_add⟩
theorem od_addC : OpD X (binaryOp .Add) gAddC := ⟨_, op_cat, snd_addC⟩
theorem od_sub : OpD X (binaryOp .Sub) gSub := ⟨_, op_sub, snd_sub⟩
theorem od_mul : OpD X (binaryOp .Mult) gMul := ⟨_, .or (.or op_mul op_mulW) op_rep, snd_mul⟩
theorem od_mulC : OpD X (binaryOp .Mult) gMulC := ⟨_, op_rep, snd_mulC⟩
theorem od_fdiv : OpD X (binaryOp .FloorDiv) gFdiv := ⟨_, op_fdivW, snd_II fun _ _ _ _ => vint⟩
theorem od_mod : OpD X (binaryOp .Mod) gMod := ⟨_, op_mod, snd_II fun _ _ _ _ => vint⟩
theorem od_pow : OpD X (binaryOp .Pow) gPow := ⟨_, op_powW, snd_II fun _ _ _ _ => vint⟩
theorem od_lt : OpD X (compareOp .Lt) (gCmp fun i j => decide (i < j)) := ⟨_, op_lt, snd_cmp⟩
theorem od_le : OpD X (compareOp .LtE) (gCmp fun i j => decide (i ≤ j)) := ⟨_, op_le, snd_cmp⟩
theorem od_gt : OpD X (compareOp .Gt) (gCmp fun i j => decide (j < i)) := ⟨_, op_gt, snd_cmp⟩
theorem od_ge : OpD X (compareOp .GtE) (gCmp fun i j => decide (j ≤ i)) := ⟨_, op_ge, snd_cmp⟩
theorem od_eq (hu : X.A.units + 64 < cLine) : OpD X (compareOp .Eq) gEq := ⟨_, op_eqD hu, snd_eqD⟩
theorem od_ne (hu : X.A.units + 64 < cLine) : OpD X (compareOp .NotEq) gNe := ⟨_, op_neD hu, snd_neD⟩
theorem od_isN : OpD X (compareOp .Is) gIsN := ⟨_, op_isN, snd_isN⟩
theorem od_notN : OpD X (compareOp .IsNot) gNotN := ⟨_, op_notN, snd_notN⟩
theorem od_in (hu : X.A.units + 65 < cLine) : OpD X (compareOp .In) (gIn false) := ⟨_, .or op_in_seq (op_inD hu), snd_in false⟩
theorem od_notin (hu : X.A.units + 65 < cLine) : OpD X (compareOp .NotIn) (gIn true) := ⟨_, .or op_notIn_seq (op_notInD hu), snd_in true⟩
def gNeg : D1 := fun x S R => match x.int? with
  | some i => R (dI (-i)) S
  | none => False
theorem ud_neg : UnD X (unaryOp .USub) gNeg := ⟨_, un_neg, fun B S σ ts H x dx R Q h hd k => by
  obtain ⟨F, α, h⟩ := h
  unfold gNeg at hd
  split at hd
  · rename_i i e
    rw [int?_eq e] at h
    exact ⟨i, vok_int h.top, k _ _ S H hd ((h.sub mem1).add vint).ok⟩
  · exact hd.elim⟩
end

/-! ## chains of comparisons, subscripts, slices -/
def dChain (g g' : D2) (da db dc : DTE) : DTE := fun S R => da S fun x S1 => db S1 fun y S2 => g x y S2 fun z S3 => match z with
  | .imm (.bool b) => if b = true then dc S3 fun u S4 => g' y u S4 R else R (dB false) S3
  | _ => False
section
variable {P : Program} {w : World} {K : PySem.W.Frag} {ta tb tc : TE} {da db dc : DTE}
theorem snd_chain {r r' : R2} {g g' : D2} (ha : SndE P w K ta da) (hb : SndE P w K tb db) (hc : SndE P w K tc dc) (hr : SndR P w K r g) (hr' : SndR P w K r' g') :
    SndE P w K (tChain r r' ta tb tc) (dChain g g' da db dc) := fun B S σ ts H R Q h hd k =>
  ha B S σ ts H _ _ h hd fun x dx S1 H1 h1 o1 => hb B S1 σ _ H1 _ _ o1 h1 fun y dy S2 H2 h2 o2 => by
    have o2' : StOk P w K B S2 σ ((y, dy) :: (x, dx) :: (y, dy) :: ts) H2 := o2.sub fun p hp => by
      rcases List.mem_cons.mp hp with e | hp
      · subst e; exact List.mem_cons_self
      · rcases List.mem_cons.mp hp with e | hp
        · subst e; exact List.mem_cons_of_mem _ List.mem_cons_self
        · rcases List.mem_cons.mp hp with e | hp
          · subst e; exact List.mem_cons_self
          · exact List.mem_cons_of_mem _ (List.mem_cons_of_mem _ hp)
    refine hr B S2 σ ((y, dy) :: ts) H2 x y dx dy _ _ o2' h2 fun z dz S3 H3 h3 o3 => ?_
    obtain ⟨b, rfl, h4⟩ := bool_of (R := fun b => if b = true then dc S3 fun u S4 => g' dy u S4 R else R (dB false) S3) h3
    obtain ⟨F, α, o3⟩ := o3
    refine ⟨b, vok_bl o3.top, ?_⟩
    cases b with
    | true =>
      have o4 : StOk P w K B S3 σ ((y, dy) :: ts) H3 := (o3.sub fun p hp => List.mem_cons_of_mem _ hp).ok
      exact hc B S3 σ _ H3 _ _ o4 h4 fun u du S4 H4 h5 o5 => hr' B S4 σ ts H4 y u dy du R Q o5 h5 k
    | false => exact k _ _ S3 H3 h4 ((o3.sub fun p hp => List.mem_cons_of_mem _ (List.mem_cons_of_mem _ hp)).add vbl).ok
end
section
variable {X : Cx} {a b c : Expr} {da db dc : DTE} {pos : Pos} {g g' : D2}
theorem de_chain {op op' : CmpOp} (o : OpD X (compareOp op) g) (o' : OpD X (compareOp op') g') (ha : DE X a da) (hb : DE X b db) (hc : DE X c dc) (hm : lastMarks [op, op'] [b, c] = false := by rfl) : DE X (.Compare a [op, op'] [b, c] pos) (dChain g g' da db dc) := by
  obtain ⟨r, o1, o2⟩ := o.ex
  obtain ⟨r', p1, p2⟩ := o'.ex
  obtain ⟨ta, a1, a2⟩ := ha.ex
  obtain ⟨tb, b1, b2⟩ := hb.ex
  obtain ⟨tc, c1, c2⟩ := hc.ex
  exact ⟨_, pe_chain o1 p1 a1 b1 c1 (hm := hm), snd_chain a2 b2 c2 o2 p2⟩
theorem dt_chain {op op' : CmpOp} (o : OpD X (compareOp op) g) (o' : OpD X (compareOp op') g') (ha : DE X a da) (hb : DE X b db) (hc : DE X c dc) (hm : lastMarks [op, op'] [b, c] = false := by rfl) : DT X (.Compare a [op, op'] [b, c] pos) (dTest (dChain g g' da db dc)) := by
  obtain ⟨r, o1, o2⟩ := o.ex
  obtain ⟨r', p1, p2⟩ := o'.ex
  obtain ⟨ta, a1, a2⟩ := ha.ex
  obtain ⟨tb, b1, b2⟩ := hb.ex
  obtain ⟨tc, c1, c2⟩ := hc.ex
  exact ⟨_, pt_chain o1 p1 a1 b1 c1 (hm := hm), snd_test (snd_chain a2 b2 c2 o2 p2)⟩
/-! ### x[i] -/
def gIx : D2 := fun x y S R => match y.int? with
  | some i => match S.seq x with
    | some (_, ds) => match atI ds i with
      | some d => R d S
      | none => False
    | none => match x.str? with
      | some z => z.length ≤ sizeLine ∧ match atI z.cps.toList i with
        | some c => R (dS ⟨#[c]⟩) S
        | none => False
      | none => False
  | none => False
theorem snd_ix {P : Program} {w : World} {K : PySem.W.Frag} : SndR P w K (rIx K) gIx := fun B S σ ts H x y dx dy R Q h hd k => by
  obtain ⟨F, α, h⟩ := h
  unfold gIx at hd
  split at hd
  · rename_i i e1
    rw [int?_eq e1] at h
    split at hd
    · rename_i l ds e2
      cases e3 : atI ds i with
      | none => rw [e3] at hd; exact hd.elim
      | some d =>
        rw [e3] at hd
        obtain ⟨p, xs, rfl, hq, hp⟩ := h.seq h.top2 e2
        obtain ⟨v, hv, hvd⟩ := Paired.atI' hp e3
        have fin := k v d S H hd ((h.sub mem2).add hvd).ok
        cases l with
        | true => exact .inl ⟨p, xs, i, v, rfl, vok_int h.top, hq, hv, fin⟩
        | false => exact .inr (.inl ⟨p, xs, i, v, rfl, vok_int h.top, hq, hv, fin⟩)
    · split at hd
      · rename_i z e2
        rw [str?_eq e2] at h
        obtain ⟨hz, hd⟩ := hd
        cases e3 : atI z.cps.toList i with
        | none => rw [e3] at hd; exact hd.elim
        | some c =>
          rw [e3] at hd
          exact .inr (.inr ⟨z, i, c, vok_str h.top2, vok_int h.top, hz, e3, k _ _ S H hd ((h.sub mem2).add vstr).ok⟩)
      · exact hd.elim
  · exact hd.elim
theorem de_ix (ha : DE X a da) (hb : DE X b db) (hs : PlainIx b := by exact fun _ _ => rfl) : DE X (.Subscript a b pos) (dOp gIx da db) := by
  obtain ⟨ta, a1, a2⟩ := ha.ex
  obtain ⟨tb, b1, b2⟩ := hb.ex
  exact ⟨_, pe_ix ix_seq a1 b1 hs, snd_op a2 b2 snd_ix⟩
/-! ### x[lo:hi] -/
abbrev DTO := DSt → (Option Int → DSt → Prop) → Prop
def dNoPart : DTO := fun S R => R none S
def dPart (de : DTE) : DTO := fun S R => de S fun x S1 => match x.int? with
  | some i => R (some i) S1
  | none => False
structure DO' (X : Cx) (e : Option Expr) (d : DTO) : Prop where
  ex : ∃ t, PO X e t ∧ ∀ (B : Bs) (S : DSt) (σ : L2.St) (ts : List (V × DV)) (H : Hp) (R : Option Int → DSt → Prop) (Q : Option Int → Hp → Prop), StOk X.prog X.w X.K B S σ ts H → d S R →
    (∀ o S' H', R o S' → StOk X.prog X.w X.K B S' σ ts H' → Q o H') → t σ H Q
theorem do_none : DO' X none dNoPart := ⟨_, po_none, fun B S σ ts H R Q h hd k => k none S H hd h⟩
theorem do_some (ha : DE X a da) : DO' X (some a) (dPart da) := by
  obtain ⟨ta, a1, a2⟩ := ha.ex
  refine ⟨_, po_some a1, fun B S σ ts H R Q h hd k => a2 B S σ ts H _ _ h hd fun x dx S1 H1 h1 o1 => ?_⟩
  split at h1
  · rename_i i e
    rw [int?_eq e] at o1
    obtain ⟨F, α, o1⟩ := o1
    exact ⟨i, vok_int o1.top, k _ S1 H1 h1 (o1.sub mem1).ok⟩
  · exact h1.elim
def cutD {α : Type} (xs : List α) (lo hi : Option Int) : List α := (xs.drop (HT.sIx xs.length 0 lo)).take (HT.sIx xs.length xs.length hi - HT.sIx xs.length 0 lo)
def gSl (x : DV) (lo hi : Option Int) : DSt → (DV → DSt → Prop) → Prop := fun S R => match S.seq x with
  | some (b, ds) => match allImm ds with
    | some ps => R (.imm (if b = true then .list (cutD ps lo hi) else .tuple (cutD ps lo hi))) S
    | none => False
  | none => match x.str? with
    | some z => z.length ≤ sizeLine ∧ R (dS (cutS z lo hi)) S
    | none => False
def dSl (da : DTE) (dl dh : DTO) : DTE := fun S R => da S fun x S1 => dl S1 fun lo S2 => dh S2 fun hi S3 => gSl x lo hi S3 R
theorem cutD_eq {α β : Type} {xs : List α} {ys : List β} (hl : xs.length = ys.length) (lo hi : Option Int) : HT.sIx xs.length 0 lo = HT.sIx ys.length 0 lo ∧ HT.sIx xs.length xs.length hi = HT.sIx ys.length ys.length hi := by rw [hl]; exact ⟨rfl, rfl⟩
theorem cut_whole {α : Type} {xs : List α} {lo hi : Option Int} (h : HT.sIx xs.length 0 lo = 0 ∧ HT.sIx xs.length xs.length hi = xs.length) : cutD xs lo hi = xs := by
  unfold cutD
  rw [h.1, h.2, List.drop_zero, Nat.sub_zero, List.take_length]
theorem RpAll.cut {P : Program} {w : World} {K : PySem.W.Frag} {F : Hp} {xs : List V} {ps : List PyData} (h : RpAll P w K F xs ps) (lo hi : Option Int) : RpAll P w K F (cutV xs lo hi) (cutD ps lo hi) := by
  unfold cutV cutD
  rw [h.length]
  exact (h.drop _).take _
theorem de_sl {lo hi : Option Expr} {p2 : Pos} {dl dh : DTO} (ha : DE X a da) (hl : DO' X lo dl) (hh : DO' X hi dh) : DE X (.Subscript a (.Slice lo hi none p2) pos) (dSl da dl dh) := by
  obtain ⟨ta, a1, a2⟩ := ha.ex
  obtain ⟨tl, l1, l2⟩ := hl.ex
  obtain ⟨th, h1', h2'⟩ := hh.ex
  refine ⟨_, pe_slice (.or sl_list (.or sl_tupZ sl_str)) a1 l1 h1', fun B S σ ts H R Q h hd k => a2 B S σ ts H _ _ h hd fun x dx S1 H1 h1 o1 => l2 B S1 σ _ H1 _ _ o1 h1 fun lo' S2 H2 h2 o2 => h2' B S2 σ _ H2 _ _ o2 h2 fun hi' S3 H3 h3 o3 => ?_⟩
  obtain ⟨F, α, o3⟩ := o3
  unfold gSl at h3
  split at h3
  · rename_i l ds e1
    cases e2 : allImm ds with
    | none => rw [e2] at h3; exact h3.elim
    | some ps =>
      rw [e2] at h3
      obtain ⟨p, xs, rfl, hq, hp⟩ := o3.seq o3.top e1
      have hr := imms e2 hp
      cases l with
      | true => exact .inl ⟨p, xs, rfl, hq, fun r hr' => k _ _ S3 _ h3 ((o3.sub mem1).newLst hr' (hr.cut lo' hi')).ok⟩
      | false =>
        refine .inr (.inl ⟨p, xs, rfl, hq, fun hw => ?_, fun r ob hr' ho => k _ _ S3 _ h3 ((o3.sub mem1).newTup hr' ho (hr.cut lo' hi')).ok⟩)
        have e3 : cutD ps lo' hi' = ps := cut_whole (by rw [← hr.length]; exact hw)
        have h3' : R (.imm (.tuple (cutD ps lo' hi'))) S3 := h3
        rw [e3] at h3'
        refine k _ _ S3 H3 h3' ((o3.sub mem1).add ?_).ok
        cases dx with
        | imm d =>
          have e1' : (match d with | .list ds => some (true, ds.map DV.imm) | .tuple ds => some (false, ds.map DV.imm) | _ => none) = some (false, ds) := by
            cases d <;> exact e1
          cases d with
          | tuple qs =>
            have e4 : qs.map DV.imm = ds := by
              have := e1'
              simp only [Option.some.injEq, Prod.mk.injEq, true_and] at this
              exact this
            have e5 : qs = ps := by
              rw [← e4, allImm_map] at e2
              exact Option.some.inj e2
            rw [← e5]
            exact o3.top
          | list qs => simp at e1'
          | none => simp at e1'
          | bool _ => simp at e1'
          | int _ => simp at e1'
          | str _ => simp at e1'
          | dict _ => simp at e1'
        | cell j =>
          exfalso
          have e1' : (match S3.cell j with | some (.lst ds) => some (true, ds) | _ => none) = some (false, ds) := e1
          split at e1' <;> simp at e1'
        | raw _ => cases e1
        | obj _ => cases e1
        | scr _ => simp [DSt.seq] at e1
  · split at h3
    · rename_i z e1
      rw [str?_eq e1] at o3
      exact .inr (.inr ⟨z, vok_str o3.top, h3.1, k _ _ S3 H3 h3.2 ((o3.sub mem1).add vstr).ok⟩)
    · exact h3.elim
end
end DL

set_option Elab.async false
set_option linter.all false
set_option maxRecDepth 100000
set_option autoImplicit false
set_option maxHeartbeats 1000000
namespace DL
open PySem PySem.Spec L2

/-! ## statements -/
def dNext : DTS := fun D S => D.nx S
def dSeq (t u : DTS) : DTS := fun D S => t { D with nx := u D } S
/-- a sequence with a word M between -/
def dCut (t u : DTS) : DTS := fun D S => ∃ M : DSt → Prop, t { D with nx := M } S ∧ ∀ S', M S' → u D S'
def dBreak : DTS := fun D S => D.bk S
def dCont : DTS := fun D S => D.ct S
def dDrop (de : DTE) : DTS := fun D S => de S fun _ S1 => D.nx S1
def dRet (de : DTE) : DTS := fun D S => de S D.rt
def dRetN : DTS := fun D S => D.rt dN S
def dIfS (c : DTT) (t u : DTS) : DTS := fun D S => c S fun b S1 => if b = true then t D S1 else u D S1
def dNever : DTS := fun _ _ => False
/-- the value at hand is a list that nobody changes any more -/
def DSt.frz (S : DSt) (d : DV) : Option PyData := match d with
  | .imm d => some d
  | .cell k => match S.cell k with
    | some (.lst ds) => (allImm ds).map PyData.list
    | _ => none
  | _ => none
def dFz (de : DTE) : DTE := fun S R => de S fun d S1 => match S1.frz d with
  | some p => R (.imm p) (match d with | .cell k => ⟨S1.ρ, S1.μ.set k none⟩ | _ => S1)
  | none => False

/-! ### targets: a yield is one value or a new pair -/
inductive DY where
  | one (d : DV)
  | two (d e : DV)
abbrev DTG := DY → DSt → (DSt → Prop) → Prop
def dgName (i : Nat) : DTG := fun y S R => match y with
  | .one d => R (S.set i d)
  | .two _ _ => False
/-- a, b = .. -/
def dgTwo (i j : Nat) : DTG := fun y S R => match y with
  | .two d e => R ((S.set i d).set j e)
  | .one d => match d.tup? with
    | some [p, q] => R ((S.set i (.imm p)).set j (.imm q))
    | _ => False
section
variable (P : Program) (w : World) (K : PySem.W.Frag)
def YOk (F : Hp) (α : List Addr) (H : Hp) (v : V) : DY → Prop
  | .one d => VOk P w K F α v d
  | .two d e => ∃ T x y, v = .ref T ∧ H T = some (.tup [x, y]) ∧ VOk P w K F α x d ∧ VOk P w K F α y e
def StY (B : Bs) (S : DSt) (σ : L2.St) (ts : List (V × DV)) (H : Hp) (v : V) (y : DY) : Prop := ∃ F α, StAt P w K B S σ ts H F α ∧ YOk P w K F α H v y
/-- js: the slots that the target sets -/
def SndG (js : List Nat) (g : TG) (dg : DTG) : Prop := ∀ (B : Bs) (S : DSt) (σ : L2.St) (ts : List (V × DV)) (H : Hp) (v : V) (y : DY) (R : DSt → Prop) (Q : L2.St → Hp → Prop), StY P w K B S σ ts H v y → dg y S R →
  (∀ S' σ' H', R S' → S'.μ = S.μ → (∀ vs : List Nat, (∀ j ∈ js, j ∈ vs) → wipe σ' vs = wipe σ vs) → StOk P w K B S' σ' ts H' → Q σ' H') → g v σ H Q
end
structure DG (X : Cx) (tg : Expr) (js : List Nat) (dg : DTG) : Prop where
  ex : ∃ g, PG X tg g ∧ SndG X.prog X.w X.K js g dg

section
variable {P : Program} {w : World} {K : PySem.W.Frag} {B : Bs} {S S' : DSt} {σ : L2.St} {ts : List (V × DV)} {H F F' : Hp} {α : List Addr} {v : V} {d : DV}
theorem StAt.setSlot (h : StAt P w K B S σ ts H F α) {i : Nat} (hv : VOk P w K F α v d) : StAt P w K B (S.set i d) (σ.set i (some v)) ts H F α := by
  refine { h with len := ?_, sl := fun j e q => ?_ }
  · show (S.ρ.set i (some d)).length = (σ.set i (some v)).length
    rw [List.length_set, List.length_set]; exact h.len
  · have q' : (S.ρ.set i (some d))[j]? = some (some e) := q
    by_cases c : i = j
    · subst c
      by_cases hi : i < S.ρ.length
      · rw [List.getElem?_set_self hi] at q'
        cases q'
        exact ⟨v, by rw [List.getElem?_set_self (by rw [← h.len]; exact hi)], hv⟩
      · rw [List.getElem?_eq_none (by rw [List.length_set]; omega)] at q'
        cases q'
    · rw [List.getElem?_set_ne c] at q'
      obtain ⟨u, h1, h2⟩ := h.sl j e q'
      exact ⟨u, by rw [List.getElem?_set_ne c]; exact h1, h2⟩
theorem wipe_set (σ : L2.St) (j : Nat) (x : Option V) : ∀ vs : List Nat, j ∈ vs → wipe (σ.set j x) vs = wipe σ vs
  | [], h => by cases h
  | i :: vs, h => by
    show (wipe (σ.set j x) vs).set i none = (wipe σ vs).set i none
    by_cases c : j ∈ vs
    · rw [wipe_set σ j x vs c]
    · have e : i = j := by
        rcases List.mem_cons.mp h with e | e
        · exact e.symm
        · exact absurd e c
      subst e
      have key : ∀ (σ : L2.St) (vs : List Nat), i ∉ vs → wipe (σ.set i x) vs = (wipe σ vs).set i x := by
        intro σ vs
        induction vs with
        | nil => intro _; rfl
        | cons k vs ih =>
          intro hn
          have h1 : i ≠ k := fun e => hn (e ▸ List.mem_cons_self)
          have h2 : i ∉ vs := fun e => hn (List.mem_cons_of_mem _ e)
          show (wipe (σ.set i x) vs).set k none = ((wipe σ vs).set k none).set i x
          rw [ih h2, List.set_comm _ _ h1]
      rw [key σ vs c, List.set_set]
theorem snd_name (i : Nat) : SndG P w K [i] (gName i) (dgName i) := fun B S σ ts H v y R Q h hd k => by
  obtain ⟨F, α, h, hy⟩ := h
  cases y with
  | two _ _ => exact hd.elim
  | one d => exact k _ _ H hd rfl (fun vs hj => wipe_set _ _ _ _ (hj i (by simp))) (h.setSlot hy).ok
theorem snd_two (i j : Nat) : SndG P w K [i, j] (gTup K 2 (gCons (gName i) (gCons (gName j) gNil))) (dgTwo i j) := fun B S σ ts H v y R Q h hd k => by
  obtain ⟨F, α, h, hy⟩ := h
  have wp : ∀ {a b : V}, ∀ vs : List Nat, (∀ z ∈ [i, j], z ∈ vs) → wipe ((σ.set i (some a)).set j (some b)) vs = wipe σ vs := fun vs hj => by
    rw [wipe_set _ _ _ _ (hj j (by simp)), wipe_set _ _ _ _ (hj i (by simp))]
  cases y with
  | two d e =>
    obtain ⟨T, x, z, rfl, hT, hx, hz⟩ := hy
    refine ⟨T, [x, z], rfl, .inl (.inl hT), rfl, x, [z], rfl, z, [], rfl, rfl, ?_⟩
    exact k _ _ H hd rfl wp ((h.setSlot hx).setSlot hz).ok
  | one d =>
    have hd' : match d.tup? with | some [p, q] => R ((S.set i (.imm p)).set j (.imm q)) | _ => False := hd
    split at hd'
    · rename_i p q e
      rw [tup?_eq e] at hy
      obtain ⟨a, ys, rfl, tz, rp⟩ := rp_tup (α := α) hy
      cases rp with
      | cons r1 r2 => cases r2 with
        | cons r3 r4 => cases r4 with
          | nil =>
            rename_i x z
            refine ⟨a, [x, z], rfl, (tz.up h.fh).t, rfl, x, [z], rfl, z, [], rfl, rfl, ?_⟩
            exact k _ _ H hd' rfl wp ((h.setSlot (v := x) (d := .imm p) r1).setSlot (v := z) (d := .imm q) r3).ok
    · exact hd'.elim
theorem Lift.sub {ts' : List (V × DV)} {D : DEnds} {G : Ends} (l : Lift P w K B ts D G) (hs : ∀ p ∈ ts, p ∈ ts') : Lift P w K B ts' D G where
  nx S σ H h o := l.nx S σ H h (o.sub hs)
  rt v d S σ H h o := l.rt v d S σ H h (o.sub fun p hp => by
    rcases List.mem_cons.mp hp with e | hp
    · subst e; exact List.mem_cons_self
    · exact List.mem_cons_of_mem _ (hs p hp))
  bk S σ H h o := l.bk S σ H h (o.sub hs)
  ct S σ H h o := l.ct S σ H h (o.sub hs)
variable {ta tb te : TE} {da db de : DTE} {tt tu : TT} {dt du : DTT} {t u : TS} {ds du' : DTS}
theorem snd_next : SndS P w K tNext dNext := fun B S σ ts H D G h hd l => l.nx S σ H hd h
theorem snd_seq (h1 : SndS P w K t ds) (h2 : SndS P w K u du') : SndS P w K (tSeq t u) (dSeq ds du') := fun B S σ ts H D G h hd l =>
  h1 B S σ ts H _ _ h hd ⟨fun S1 σ1 H1 q o => h2 B S1 σ1 ts H1 D G o q l, l.rt, l.bk, l.ct⟩
theorem snd_cut (h1 : SndS P w K t ds) (h2 : SndS P w K u du') : SndS P w K (tSeq t u) (dCut ds du') := fun B S σ ts H D G h ⟨M, hd, hm⟩ l =>
  h1 B S σ ts H _ _ h hd ⟨fun S1 σ1 H1 q o => h2 B S1 σ1 ts H1 D G o (hm S1 q) l, l.rt, l.bk, l.ct⟩
theorem snd_break : SndS P w K tBreak dBreak := fun B S σ ts H D G h hd l => l.bk S σ H hd h
theorem snd_cont : SndS P w K tCont dCont := fun B S σ ts H D G h hd l => l.ct S σ H hd h
theorem snd_drop (ha : SndE P w K te de) : SndS P w K (tDrop te) (dDrop de) := fun B S σ ts H D G h hd l =>
  ha B S σ ts H _ _ h hd fun v d S1 H1 q o => l.nx S1 σ H1 q o.drop
theorem snd_ret (ha : SndE P w K te de) : SndS P w K (tRet te) (dRet de) := fun B S σ ts H D G h hd l =>
  ha B S σ ts H _ _ h hd fun v d S1 H1 q o => l.rt v d S1 σ H1 q o
theorem snd_retN : SndS P w K tRetN dRetN := fun B S σ ts H D G h hd l => by
  obtain ⟨F, α, h⟩ := h
  exact l.rt .non dN S σ H hd (h.add vnon).ok
theorem snd_ifS (hc : SndT P w K tt dt) (h1 : SndS P w K t ds) (h2 : SndS P w K u du') : SndS P w K (tIfS tt t u) (dIfS dt ds du') := fun B S σ ts H D G h hd l =>
  hc B S σ ts H _ _ h hd fun b S1 H1 q o => by
    cases b with
    | true => exact h1 B S1 σ ts H1 D G o q l
    | false => exact h2 B S1 σ ts H1 D G o q l
theorem snd_never : SndS P w K tNever dNever := fun _ _ _ _ _ _ _ _ hd _ => hd.elim
theorem StAt.freeze {k : Nat} {a : Addr} {xs : List V} {ps : List PyData} (h : StAt P w K B S σ ts H F α) (ha : α[k]? = some a) (hF : F a = none) (hH : H a = some (.lst xs)) (hr : RpAll P w K F xs ps) (hb : a ∉ B.ps) :
    StAt P w K B ⟨S.ρ, S.μ.set k none⟩ σ ((.ref a, .imm (.list ps)) :: ts) H (upd F a (.lst xs)) α := by
  have e : Ex F (upd F a (.lst xs)) := Ex.new hF
  have am : a ∈ α := List.mem_of_getElem? ha
  refine ⟨fun b v q => ?_, h.bh, h.bf.trans e, fun b v q1 q2 q3 => ?_, h.bp, h.bn, h.nd, ?_, h.an, h.len, fun i d q => ?_, fun q hq => ?_, fun j v q => ?_⟩
  · by_cases c : b = a
    · subst c; rw [upd_same] at q; cases q; exact hH
    · rw [upd_ne c] at q; exact h.fh b v q
  · obtain ⟨h1, h2, h3⟩ := h.bc b v q1 q2 q3
    have c : b ≠ a := fun z => h3 (z ▸ am)
    exact ⟨h1, by rw [upd_ne c]; exact h2, h3⟩
  · show α.length = (S.μ.set k none).length
    rw [List.length_set]; exact h.al
  · obtain ⟨v, h1, h2⟩ := h.sl i d q
    exact ⟨v, h1, h2.up0 e⟩
  · rcases List.mem_cons.mp hq with c | hq
    · subst c; exact Rp.lst upd_same (hr.up e)
    · exact (h.tm q hq).up0 e
  · have q' : (S.μ.set k none)[j]? = some (some v) := q
    by_cases c : k = j
    · subst c
      rw [List.getElem?_set_self (by rw [← h.al]; exact (List.getElem?_eq_some_iff.mp ha).1)] at q'
      cases q'
    · rw [List.getElem?_set_ne c] at q'
      obtain ⟨b, h1, h2, h3⟩ := h.ce j v q'
      have cb : b ≠ a := fun z => by
        subst z
        have i1 := List.getElem?_eq_some_iff.mp ha
        have i2 := List.getElem?_eq_some_iff.mp h1
        exact c ((List.getElem_inj h.nd).mp (i1.2.trans i2.2.symm))
      exact ⟨b, h1, by rw [upd_ne cb]; exact h2, h3.up0 e rfl⟩
end
section
variable {X : Cx} {st : Stmt} {rest : List Stmt} {e c : Expr} {de : DTE} {dt : DTT} {ds du : DTS} {pos : Pos}
theorem dss_nil : DSs X [] dNext := ⟨_, pss_nil, snd_next⟩
theorem dss_one (h : DS X st ds) : DSs X [st] ds := by
  obtain ⟨t, a1, a2⟩ := h.ex
  exact ⟨_, pss_one a1, a2⟩
theorem dss_cons (h : DS X st ds) (r : DSs X rest du) : DSs X (st :: rest) (dSeq ds du) := by
  obtain ⟨t, a1, a2⟩ := h.ex
  obtain ⟨u, b1, b2⟩ := r.ex
  exact ⟨_, pss_cons a1 b1, snd_seq a2 b2⟩
theorem dss_cut (h : DS X st ds) (r : DSs X rest du) : DSs X (st :: rest) (dCut ds du) := by
  obtain ⟨t, a1, a2⟩ := h.ex
  obtain ⟨u, b1, b2⟩ := r.ex
  exact ⟨_, pss_cons a1 b1, snd_cut a2 b2⟩
theorem dss_never : DSs X rest dNever := ⟨_, pss_never, snd_never⟩
theorem ds_pass : DS X (.Pass pos) dNext := ⟨_, ps_pass, snd_next⟩
theorem ds_break : DS X (.Break pos) dBreak := ⟨_, ps_break, snd_break⟩
theorem ds_continue : DS X (.Continue pos) dCont := ⟨_, ps_continue, snd_cont⟩
theorem ds_expr (he : DE X e de) (hs : swapsWith e none pos.line X.env = pure false := by rfl) : DS X (.Expr e pos) (dDrop de) := by
  obtain ⟨t, a1, a2⟩ := he.ex
  exact ⟨_, ps_expr a1 hs, snd_drop a2⟩
theorem ds_ret (he : DE X e de) : DS X (.Return (some e) pos) (dRet de) := by
  obtain ⟨t, a1, a2⟩ := he.ex
  exact ⟨_, ps_ret a1, snd_ret a2⟩
theorem ds_retN : DS X (.Return none pos) dRetN := ⟨_, ps_retN, snd_retN⟩
theorem ds_if {a b : List Stmt} (hc : DT X c dt) (ha : DSs X a ds) (hb : DSs X b du) : DS X (.If c a b pos) (dIfS dt ds du) := by
  obtain ⟨tc, c1, c2⟩ := hc.ex
  obtain ⟨t, a1, a2⟩ := ha.ex
  obtain ⟨u, b1, b2⟩ := hb.ex
  exact ⟨_, ps_if c1 a1 b1, snd_ifS c2 a2 b2⟩
theorem ds_never : DS X st dNever := ⟨_, ps_never, snd_never⟩
/-- the value is frozen where it stands; not a cell that was handed in -/
def dFzOk (S : DSt) (d : DV) (n : Nat) : Prop := ∀ k, d = .cell k → n ≤ k

/-! ### stores -/
def dAsg (de : DTE) (dg : DTG) : DTS := fun D S => de S fun d S1 => dg (.one d) S1 D.nx
theorem dg_name {i : Nat} {x : Str} {p : Pos} (hN : X.N.Nodup) (hi : X.N[i]? = some x) (hx : Loc X.env.scope x) (hf : X.fn x = true ∨ X.env.scope.names.lookup x = some .local := by first | exact .inl rfl | exact .inr rfl | assumption) : DG X (.Name x p) [i] (dgName i) :=
  ⟨_, pg_name hN hi hx hf, snd_name i⟩
theorem dg_two {i j : Nat} {x y : Str} {p q : Pos} {kk : Nat} (hc : X.calm = true) (hN : X.N.Nodup) (hi : X.N[i]? = some x) (hj : X.N[j]? = some y) (hx : Loc X.env.scope x) (hy : Loc X.env.scope y)
    (hf : X.fn x = true ∨ X.env.scope.names.lookup x = some .local := by first | exact .inl rfl | exact .inr rfl | assumption) (hf' : X.fn y = true ∨ X.env.scope.names.lookup y = some .local := by first | exact .inl rfl | exact .inr rfl | assumption) :
    DG X (.Tuple [.Name x p, .Name y q] kk pos) [i, j] (dgTwo i j) :=
  ⟨_, pg_tup hc (pgs_cons (pg_name hN hi hx hf) (pgs_cons (pg_name hN hj hy hf') pgs_nil)), snd_two i j⟩
theorem ds_set {i : Nat} {x : Str} {pos' : Pos} (hN : X.N.Nodup) (hi : X.N[i]? = some x) (hx : Loc X.env.scope x) (he : DE X e de) (hs : swapsWith e (some (.Name x pos')) pos.line X.env = pure false := by rfl) (hf : X.fn x = true ∨ X.env.scope.names.lookup x = some .local := by first | exact .inl rfl | exact .inr rfl | assumption) :
    DS X (.Assign [.Name x pos'] e pos) (dAsg de (dgName i)) := by
  obtain ⟨t, a1, a2⟩ := he.ex
  refine ⟨_, ps_set hN hi hx a1 hs hf, fun B S σ ts H D G h hd l => a2 B S σ ts H _ _ h hd fun v d S1 H1 q o => ?_⟩
  obtain ⟨F, α, o⟩ := o
  exact l.nx _ _ H1 q ((o.setSlot o.top).sub mem1).ok
theorem ds_asg {tg : Expr} {js : List Nat} {dg : DTG} (he : DE X e de) (hg : DG X tg js dg) (hs : swapsWithSole [tg] e pos.line X.env = pure false := by rfl) (hw : swappedStores [tg] e X.env = pure none := by rfl)
    (h1 : (assignEach [tg] X.env).map (·.2) = [assign tg X.env] := by rfl) : DS X (.Assign [tg] e pos) (dAsg de dg) := by
  obtain ⟨t, a1, a2⟩ := he.ex
  obtain ⟨g, g1, g2⟩ := hg.ex
  refine ⟨_, ps_asg a1 g1 hs hw h1, fun B S σ ts H D G h hd l => a2 B S σ ts H _ _ h hd fun v d S1 H1 q o => ?_⟩
  obtain ⟨F, α, o⟩ := o
  exact g2 B S1 σ ts H1 v (.one d) _ _ ⟨F, α, o.sub mem1, o.top⟩ q fun S' σ' H' q' _ _ o' => l.nx _ _ _ q' o'
/-- a, b = x, y -/
def dPar (i j : Nat) (da : DTA) : DTS := fun D S => da S fun ds S1 => match ds with
  | [d, e] => D.nx ((S1.set i d).set j e)
  | _ => False
theorem ds_par {i j : Nat} {x y : Str} {a b : Expr} {da : DTA} {px py pt : Pos} {kt k2 pt2} (hc : X.calm = true) (hN : X.N.Nodup) (hi : X.N[i]? = some x) (hj : X.N[j]? = some y) (hij : i ≠ j)
    (hx : X.env.scope.names.lookup x = some .local) (hy : X.env.scope.names.lookup y = some .local) (ha : DA X [a, b] da)
    (hw : swappedStores [.Tuple [.Name x px, .Name y py] kt pt] (.Tuple [a, b] k2 pt2) X.env = pure (some [x, y]))
    (hs : swapsWithSole [.Tuple [.Name x px, .Name y py] kt pt] (.Tuple [a, b] k2 pt2) pos.line X.env = pure false := by rfl) :
    DS X (.Assign [.Tuple [.Name x px, .Name y py] kt pt] (.Tuple [a, b] k2 pt2) pos) (dPar i j da) := by
  obtain ⟨t, a1, a2⟩ := ha.ex
  refine ⟨_, ps_par hc hN hi hj hij hx hy a1 hw hs, fun B S σ ts H D G h hd l => a2 B S σ ts H _ _ h hd fun vs ds S1 H1 hl q o => ?_⟩
  match ds, q with
  | [d, e], q =>
    match vs, hl with
    | [v, w], _ =>
      obtain ⟨F, α, o⟩ := o
      have h1 := o.tm (v, d) (by simp)
      have h2 := o.tm (w, e) (by simp)
      exact ⟨v, w, rfl, l.nx _ _ H1 q (((o.setSlot h1).setSlot h2).sub memA).ok⟩
/-- x op= e: x a name -/
def dAug (i : Nat) (g : D2) (de : DTE) : DTS := fun D S => match S.get i with
  | some x => de S fun y S1 => g x y S1 fun z S2 => D.nx (S2.set i z)
  | none => False
theorem ds_aug {i : Nat} {x : Str} {op : Operator} {f : Int → Int → Int} {pos' : Pos} (hN : X.N.Nodup) (hi : X.N[i]? = some x) (hx : Loc X.env.scope x) (he : DE X e de) (ho : PIp X op (ipI f)) (hf : X.fn x = true ∨ X.env.scope.names.lookup x = some .local := by first | exact .inl rfl | exact .inr rfl | assumption) :
    DS X (.AugAssign (.Name x pos') op e pos) (dAug i (gII (fun _ _ => True) fun i j => dI (f i j)) de) := by
  obtain ⟨t, a1, a2⟩ := he.ex
  refine ⟨_, ps_aug hN hi hx a1 ho hf, fun B S σ ts H D G h hd l => ?_⟩
  unfold dAug at hd
  split at hd
  · rename_i d e1
    obtain ⟨F, α, h⟩ := h
    obtain ⟨v, h1, h2⟩ := h.sl i d (get_slot e1)
    refine ⟨v, h1, a2 B S σ _ H _ _ (h.add h2).ok hd fun y dy S1 H1 q o => ?_⟩
    unfold gII at q
    split at q
    · rename_i i' j' e2 e3
      rw [int?_eq e2, int?_eq e3] at o
      obtain ⟨F', α', o⟩ := o
      exact ⟨i', j', vok_int o.top2, vok_int o.top, l.nx _ _ H1 q.2 ((o.sub mem2).setSlot vint).ok⟩
    · exact q.elim
  · exact hd.elim
/-- xs[i] = v, xs a cell -/
def dSetIx (dv' dobj dix : DTE) : DTS := fun D S => dv' S fun v S1 => dobj S1 fun o S2 => dix S2 fun i S3 => match o, i.int? with
  | .cell k, some j => match S3.cell k with
    | some (.lst ds) => match ixN ds.length j with
      | some n => D.nx (S3.put k (.lst (ds.set n v)))
      | none => False
    | _ => False
  | _, _ => False
theorem ds_setIx {o i : Expr} {do' di : DTE} {p : Pos} (he : DE X e de) (ho : DE X o do') (hi : DE X i di)
    (hs : swapsWithSole [.Subscript o i p] e pos.line X.env = pure false := by rfl) (hw : swappedStores [.Subscript o i p] e X.env = pure none := by rfl) (h1 : (assignEach [.Subscript o i p] X.env).map (·.2) = [assign (.Subscript o i p) X.env] := by rfl)
    (hg : ∀ v, assign (.Subscript o i p) X.env v = (do let ov ← holding [v] (eval o X.env); let iv ← holding [v, ov] (eval i X.env); standAt p; holding [v, ov, iv] (setItem ov iv v); release [v, ov, iv] []) := by intro _; rfl) :
    DS X (.Assign [.Subscript o i p] e pos) (dSetIx de do' di) := by
  obtain ⟨t, a1, a2⟩ := he.ex
  obtain ⟨to, o1, o2⟩ := ho.ex
  obtain ⟨ti, i1, i2⟩ := hi.ex
  refine ⟨_, ps_asg a1 (pg_sub o1 i1 set_list hg) hs hw h1, fun B S σ ts H D G h hd l => a2 B S σ ts H _ _ h hd fun v d S1 H1 q q' => o2 B S1 σ _ H1 _ _ q' q fun x dx S2 H2 r r' => i2 B S2 σ _ H2 _ _ r' r fun y dy S3 H3 z z' => ?_⟩
  cases dx with
  | cell k =>
    have z1 : match dy.int? with
      | some j => match S3.cell k with
        | some (.lst ds) => match ixN ds.length j with
          | some n => D.nx (S3.put k (.lst (ds.set n d)))
          | none => False
        | _ => False
      | _ => False := by
      revert z
      cases dy.int? <;> exact id
    split at z1
    · rename_i j e1
      rw [int?_eq e1] at z'
      obtain ⟨F, α, z'⟩ := z'
      split at z1
      · rename_i ds e2
        split at z1
        · rename_i n e3
          obtain ⟨a, g1, g2, xs, g3, g4⟩ := z'.ce k _ (cell_get e2)
          obtain ⟨a', c1, rfl⟩ := z'.top2
          cases c1.symm.trans g1
          have hv : VOk X.prog X.w X.K F α v d := z'.tm (v, d) (by simp)
          refine ⟨a, xs, j, n, rfl, vok_int z'.top, g3, by rw [Paired.length g4]; exact e3, ?_⟩
          exact l.nx _ _ _ z1 ((z'.cellPut (u := .lst (ds.set n d)) g1 g2 ⟨_, upd_same, Paired.set' hv n g4⟩).sub fun p hp => by simp [hp]).ok
        · exact z1.elim
      · exact z1.elim
    · exact z1.elim
  | imm _ => exact z.elim
  | raw _ => exact z.elim
  | obj _ => exact z.elim
  | scr _ => exact z.elim
end
end DL

set_option Elab.async false
set_option linter.all false
set_option maxRecDepth 100000
set_option autoImplicit false
set_option maxHeartbeats 2000000
namespace L2
open PySem PySem.Spec PyProof.Rows
/-! ### enumerate over a tuple -/
theorem two_fits : 2 ≤ sizeLine := by decide
def IteT (K : PySem.W.Frag) (a : Addr) : It :=
  ⟨fun i H => ∃ (xs : List V) (x : V), SqT K H a xs ∧ xs[i]? = some x, fun i H v H' => ∃ T x, v = .ref T ∧ H T = none ∧ H' = upd H T (.tup [.int (i : Nat), x]) ∧ ∀ xs, SqT K H a xs → xs[i]? = some x, fun i H => ∃ xs : List V, SqT K H a xs ∧ xs.length = i⟩
/-- what an iterator that hands out its own tuples gives (WalksT), as a turn over the tracked part: the tuple at a stays, its items come with their places -/
theorem turn_enumT {P : Program} {w : World} {K : PySem.W.Frag} {elts : List Expr} {kk : Nat} {tpos : Pos} (a e it : Addr) :
    Turn P w K (.Tuple elts kk tpos) (IteT K a) [e, it] e (fun i h => (∃ old, IsEnum h e it (0 + (i : Int)) old) ∧ h.IsTupleIter it a i ∧ e ≠ it ∧ a ≠ it) := by
  -- the walk of the kit, for the items that stand at a
  have walk : ∀ (A : Around) (items : Array Value), A.in1.handled = none → e ≠ it → a ≠ it → e ≠ a → _ := fun A items hh n1 n2 n3 =>
    WalksT.enumFrom (prog := P) (w := w) (A := A) 0 (Draws.tuple hh it a n2 items) e n1 (by simp [n1, n3]) (by simp)
  have apart : ∀ {h : Heap} {items : Array Value} {c : Int} {old : Value}, IsEnum h e it c old → h.IsTuple a items → e ≠ a := by
    intro h items c old he ⟨o, ho, hc, _⟩ z
    subst z
    have := Option.some.inj (he.symm.trans ho)
    subst this
    injection hc with z
    exact absurd z (by decide)
  refine ⟨List.mem_cons_self, ?_, ?_, ?_, ?_, fun A i s Q E ⟨⟨_, he⟩, _⟩ q => wpAny_pyIter_enum he q⟩
  · rintro i h ⟨⟨old, he⟩, ⟨o, ho, _, hd⟩, _⟩ b hb
    have hb : b = e ∨ b = it := by simpa using hb
    rcases hb with rfl | rfl
    · exact ⟨_, he, fun v z => nomatch z⟩
    · exact ⟨o, ho, fun v z => by rw [hd] at z; cases z⟩
  · rintro i h h' ⟨⟨old, he⟩, hit, hne⟩ kept
    exact ⟨⟨old, kept e (by simp) _ he⟩, hit.at (fun o q => kept it (by simp) o q), hne⟩
  · rintro X rfl rfl rfl hc i pins s σ H E I free ⟨⟨old, he⟩, hit, n1, n2⟩ ⟨xs, x, hq, hx⟩
    obtain ⟨its, rv, tup, _⟩ := I.tuple hq
    obtain ⟨u, hu, ru⟩ := rv.get hx
    have W := walk X.A its.toArray (I.ok.hd hc) n1 n2 (apart he tup)
    have hi : i < its.toArray.size := by simpa using (List.getElem?_eq_some_iff.mp hu).1
    refine W.item i s _ E hi ⟨⟨old, he⟩, hit, tup⟩ fun T vals h1 tk hP hT tupT mid k1 => ⟨_, rfl, W.go elts kk tpos i T _ _ E mid fun h2 st k2 => ?_⟩
    obtain ⟨t, y, hy, rfl⟩ := hP
    have ey : y = u := Option.some.inj (hy.symm.trans (by simpa using hu))
    subst ey
    obtain ⟨⟨old', he'⟩, hit', _⟩ := st
    obtain ⟨oT, gT, cT, nT, dT⟩ := tupT
    have gT2 := k2 T oT (W.apart i T h1 mid) gT
    have lay : ObjOk X.prog X.w (upd H T (.tup [.int ((i : Nat) : Int), x])) h2 T (.tup [.int ((i : Nat) : Int), x]) :=
      ⟨two_fits, _, .cons ⟨t, rfl⟩ (.cons ru .nil), oT, gT2, cT, nT, by rw [dT, Int.zero_add]⟩
    refine ⟨.ref T, _, I.turnedNew (ch := [e, it]) (t' := tk) (fun b o hb q => k2 b o hb (k1 b o hb q)) free hT lay, rfl, ⟨T, x, rfl, I.hok.fresh hT, rfl, fun ys hy => by rw [I.tuple_inj hy hq]; exact hx⟩, ⟨⟨old', he'⟩, hit', n1, n2⟩, fun b hb => ?_⟩
    rw [upd_ne fun z => W.apart i T h1 mid (by rw [← z]; exact hb)]
    exact (free b hb).1
  · rintro X rfl rfl rfl hc i pins s σ H E I free ⟨⟨old, he⟩, hit, n1, n2⟩ ⟨xs, hq, hx⟩
    obtain ⟨its, rv, tup, _⟩ := I.tuple hq
    have W := walk X.A its.toArray (I.ok.hd hc) n1 n2 (apart he tup)
    have hn : i = its.toArray.size := by rw [List.size_toArray, ← rv.length, hx]
    subst hn
    obtain ⟨p0, p1, p2, p3, p4, p5⟩ := free it (by simp)
    exact wpAny_pyNext_enum_endD (Draws.tuple (A := X.A.in1) (I.ok.hd hc) it a n2 its.toArray) he ⟨hit, tup⟩ fun h1 k1 => ⟨rfl, I.turned (t' := s.toks) (fun b o hb q => k1 b o hb q) p0 p1 p3 p4 p5⟩
def iEnumT (K : PySem.W.Frag) (ta : TA) : TI := fun σ H R => ta σ H fun vs H1 => ∃ a xs, vs = [.ref a] ∧ SqT K H1 a xs ∧ R (IteT K a) H1
theorem walk_enumT {K : PySem.W.Frag} {a : Addr} {xs : List V} : Walk (IteT K a) xs.length (fun H => SqT K H a xs) (YPair (fun i => some (.int (i : Nat))) (fun i => xs[i]?)) := by
  refine ⟨fun i _ hi q => ⟨xs, xs[i], q, by simp [hi]⟩, fun _ q => ⟨xs, q, rfl⟩, fun i H v H' _ q y => ?_⟩
  obtain ⟨T, x, h1, h2, h3, h4⟩ := y
  exact ⟨T, .int (i : Nat), x, h1, h2, h3, rfl, h4 xs q⟩
/-- enumerate of a list or of a tuple -/
def iEnumA (K : PySem.W.Frag) (ta : TA) : TI := fun σ H R => ta σ H fun vs H1 => (∃ a xs, vs = [.ref a] ∧ SqL K H1 a xs ∧ R (Ite K a) H1) ∨ (∃ a xs, vs = [.ref a] ∧ SqT K H1 a xs ∧ R (IteT K a) H1)
theorem meets_enum1 {v : Value} {o : Obj} {J : Heap → Prop} (B : Begins v o J) :
    Meets (Builtin.«enumerate.__new__» ⟨[.type "enumerate", v], []⟩) (fun _ R s => J s.heap ∧
      R (.ok (.ret (.ref (s.heap.push o).objs.size))) { s with heap := (s.heap.push o).push { cls := .type "enumerate", data := .fields #[.none, .bool false, .ref s.heap.objs.size, rawInt 0, .none, .none] } }) :=
  .of_wp fun prog w A R s h => by
    obtain ⟨hp, g, d, tk, os⟩ := s
    obtain ⟨h1, h⟩ := h
    have hsub := sub_enumerate
    have step : ∀ {A' : Around} {E : Value → Shared → Prop} {Q : Value → Shared → Prop}, Q (.ref hp.objs.size) ⟨hp.push o, g, d, tk, os⟩ → wpAny (model prog w) A' (pyIter v) Q E ⟨hp, g, d, tk, os⟩ :=
      fun q => B.iter prog w _ _ ⟨hp, g, d, tk, os⟩ _ h1 q
    wp_walk using step
    refine wpAny_stack_any fun st => wpAny_pure ?_
    split
    · rename_i c _ _ _ _ _
      cases (c == Value.type "enumerate") <;> (wp_walk using step; exact ⟨_, rfl, h⟩)
    · wp_walk using step
      exact ⟨_, rfl, h⟩
theorem call_enum1 {prog : Program} {w : World} {A : Around} {E : Value → Shared → Prop} {s : Shared} {v : Value} {o : Obj} {J : Heap → Prop} {Q : Value → Shared → Prop} (B : Begins v o J) (h1 : J s.heap)
    (h : ∀ h', IsEnum h' (s.heap.objs.size + 1) s.heap.objs.size 0 .none → h'.get? s.heap.objs.size = some o → (∀ b o, s.heap.get? b = some o → h'.get? b = some o) → Q (.ref (s.heap.objs.size + 1)) { s with heap := h' }) :
    wpAny (model prog w) A (call (.type "enumerate") [v]) Q E s := by
  refine callType_new F.called_enumerate (by decide) (F.typeCall_enumerate_1 _) (F.newCall_enumerate_1 _) (fun obj => F.args_object_init_2 obj _) F.entry_enumerate_new (meets_enum1 B) ⟨h1, ?_⟩
  have hz : (s.heap.push o).objs.size = s.heap.objs.size + 1 := Heap.size_push ..
  show _ ∧ _
  rw [hz]
  have he : IsEnum ((s.heap.push o).push { cls := .type "enumerate", data := .fields #[.none, .bool false, .ref s.heap.objs.size, rawInt 0, .none, .none] }) (s.heap.objs.size + 1) s.heap.objs.size 0 .none := by
    have q := Heap.get?_push_size (s.heap.push o) (o := { cls := .type "enumerate", data := .fields #[.none, .bool false, .ref s.heap.objs.size, rawInt 0, .none, .none] }) rfl
    rw [hz] at q; exact q
  exact ⟨⟨_, he, rfl⟩, h _ he (Heap.get?_push_of_some _ (Heap.get?_push_size _ B.free)) fun b o x => Heap.get?_push_of_some _ (Heap.get?_push_of_some _ x)⟩
theorem pi_enumA {X : Cx} {e : Expr} {ta : TA} {p pos tpos : Pos} {elts : List Expr} {kk : Nat} (hg : Gl X "enumerate") (hm : X.mg "enumerate" = none) (ha : PA X [e] ta) (hs : starEach [e] X.env = [(false, eval e X.env)] := by rfl) :
    PI X (.Tuple elts kk tpos) (.Call (.Name "enumerate" p) [e] [] pos) (iEnumA X.K ta) := ⟨fun pins s σ H R I h => by
  refine Call_ (ld_blt I hg hm boot_enumerate (PyProof.Rows.callWith_type1 (thn (ha.run pos pins s σ H _ I h) fun us s1 ⟨vs, H1, I1, r1, q1⟩ => ?_) hs rfl))
  have two : ∀ b ∈ [s1.heap.objs.size + 1, s1.heap.objs.size], FpOk X pins H1 b := fun b hb => by
    have hle : s1.heap.objs.size ≤ b := by
      rcases List.mem_cons.mp hb with z | z
      · omega
      · have := List.mem_singleton.mp z; omega
    exact I1.fpOk hle (I1.hok.fresh hle)
  rcases q1 with ⟨a, xs, rfl, hq, q⟩ | ⟨a, xs, rfl, hq, q⟩
  · obtain ⟨u, rfl, ru⟩ := vals1 r1
    cases ru
    obtain ⟨its, rv, p', hz⟩ := I1.list hq
    refine call_enumerate_list p'.isList fun h' he hit hsz hk => wpAny_pyIter_enum he ?_
    exact ⟨s1.heap.objs.size + 1, _, _, _, H1, rfl, I1.kept (t' := s1.toks) hk, turn_enum a (s1.heap.objs.size + 1) s1.heap.objs.size, ⟨⟨.none, he⟩, hit, Nat.succ_ne_self _⟩, two, q⟩
  · obtain ⟨u, rfl, ru⟩ := vals1 r1
    cases ru
    obtain ⟨its, rv, p', hz⟩ := I1.tuple hq
    have hal : a < s1.heap.objs.size := by
      obtain ⟨o, ho, _⟩ := p'
      exact Heap.lt_size ho
    refine call_enum1 (begins_tuple a its.toArray) (show s1.heap.IsTuple a its.toArray from p') fun h' he hit hk => wpAny_pyIter_enum he ?_
    exact ⟨s1.heap.objs.size + 1, _, _, _, H1, rfl, I1.kept (t' := s1.toks) hk, turn_enumT a (s1.heap.objs.size + 1) s1.heap.objs.size, ⟨⟨.none, by rw [show (0 : Int) + ((0 : Nat) : Int) = 0 from rfl]; exact he⟩, ⟨_, hit, rfl, rfl⟩, Nat.succ_ne_self _, Nat.ne_of_lt hal⟩, two, q⟩⟩
/-- a list, a tuple, a text: whatever it is -/
def iAny (K : PySem.W.Frag) (tl : TE) : TI := fun σ H R => tl σ H fun x H1 => (∃ a, x = .ref a ∧ (∃ xs, SqL K H1 a xs) ∧ R (Itl K a) H1) ∨ (∃ a, x = .ref a ∧ (∃ xs, SqT K H1 a xs) ∧ R (Itt K a) H1) ∨ (∃ z, x = .str z ∧ R (Its z) H1)
/-- a reading that gives this value at this heap -/
theorem pi_any {X : Cx} {tg l : Expr} {tl : TE} (hl : PE X l tl) : PI X tg l (iAny X.K tl) := ⟨fun pins s σ H R I h => by
  refine thn (hl.run pins s σ H _ I h) fun v s1 ⟨x, H1, I1, r1, q1⟩ => ?_
  have one : ∀ b ∈ [s1.heap.objs.size], FpOk X pins H1 b := fun b hb => by
    rw [List.mem_singleton.mp hb]
    exact I1.fpOk (Nat.le_refl _) (I1.hok.fresh (Nat.le_refl _))
  have kp : ∀ ob : Obj, Inv X pins σ H1 { s1 with heap := s1.heap.push ob } := fun ob => I1.kept (t' := s1.toks) fun b o e => Heap.get?_push_of_some _ e
  rcases q1 with ⟨a, rfl, ⟨xs, hq⟩, q⟩ | ⟨a, rfl, ⟨xs, hq⟩, q⟩ | ⟨z, rfl, q⟩
  · cases r1
    obtain ⟨its, rv, p, hz⟩ := I1.list hq
    exact wpAny_pyIter_list p.isList ⟨_, [_], _, _, H1, rfl, kp _, turn_list a _, ⟨_, Heap.get?_push_size _ rfl, rfl, rfl⟩, one, q⟩
  · cases r1
    obtain ⟨its, rv, p, hz⟩ := I1.tuple hq
    exact wpAny_pyIter_tuple (show s1.heap.IsTuple a its.toArray from p) ⟨_, [_], _, _, H1, rfl, kp _, turn_tuple a _, ⟨_, Heap.get?_push_size _ rfl, rfl, rfl⟩, one, q⟩
  · obtain ⟨t, rfl⟩ := r1
    exact wpAny_pyIter_strU ⟨_, [_], _, _, H1, rfl, kp _, turn_str _ z t (strIterType z) (by unfold strIterType; split <;> simp), ⟨_, Heap.get?_push_size _ rfl, rfl, rfl⟩, one, q⟩⟩
end L2

set_option Elab.async false
set_option linter.all false
set_option maxRecDepth 100000
set_option autoImplicit false
set_option maxHeartbeats 2000000
namespace DL
open PySem PySem.Spec L2

/-! ## what is walked -/
/-- the yields, what must stay of the state while it goes on -/
abbrev DTI := DSt → (List DY → (DSt → Prop) → DSt → Prop) → Prop
section
variable (P : Program) (w : World) (K : PySem.W.Frag)
def SndI (wi : TI) (di : DTI) : Prop := ∀ (B : Bs) (S : DSt) (σ : L2.St) (ts : List (V × DV)) (H : Hp) (R : List DY → (DSt → Prop) → DSt → Prop) (Q : It → Hp → Prop), StOk P w K B S σ ts H → di S R →
  (∀ (ys : List DY) (St : DSt → Prop) (S1 : DSt) (H1 : Hp) (J : It) (G : Hp → Prop) (Y : Nat → Hp → V → Hp → Prop) (us : List (V × DV)), R ys St S1 → StOk P w K B S1 σ (us ++ ts) H1 → Walk J ys.length G Y →
    (∀ B2 S2 σ2 H2 vs, (∀ p ∈ us, p ∈ vs) → St S2 → StOk P w K B2 S2 σ2 vs H2 → G H2) →
    (∀ B2 i S2 σ2 H2 x H3 vs, i < ys.length → (∀ p ∈ us, p ∈ vs) → St S2 → StOk P w K B2 S2 σ2 vs H2 → Y i H2 x H3 → ∃ y, ys[i]? = some y ∧ StY P w K B2 S2 σ2 vs H3 x y) → Q J H1) → wi σ H Q
end
structure DI (X : Cx) (tg iter : Expr) (di : DTI) : Prop where
  ex : ∃ wi, PI X tg iter wi ∧ SndI X.prog X.w X.K wi di

/-! ## for, while, comprehensions -/
def dFor (di : DTI) (dg : DTG) (db : DTS) : DTS := fun D S => di S fun ys St S1 => ∃ I : Nat → DSt → Prop, I 0 S1 ∧ (∀ i S2, i ≤ ys.length → I i S2 → St S2) ∧
  (∀ i y S2, ys[i]? = some y → I i S2 → dg y S2 fun S3 => db { D with nx := I (i + 1), ct := I (i + 1), bk := D.nx } S3) ∧ ∀ S2, I ys.length S2 → D.nx S2
def dWhile (dc : DTT) (db : DTS) : DTS := fun D S => ∃ I : Nat → DSt → Prop, (∃ m, I m S) ∧ ∀ m S1, I m S1 → dc S1 fun b S2 => if b = true then db { D with nx := fun S3 => ∃ m', m' < m ∧ I m' S3, ct := fun S3 => ∃ m', m' < m ∧ I m' S3, bk := D.nx } S2 else D.nx S2
def wipeD (ρ : List (Option DV)) : List Nat → List (Option DV)
  | [] => ρ
  | v :: vs => (wipeD ρ vs).set v none
def dTts : DTT := fun S R => R true S
def dLcP (di : DTI) (dg : DTG) (dt : DTT) (de : DTE) (vs : List Nat) (S : DSt) (R : List PyData → DSt → Prop) : Prop := di S fun ys St S1 => ∃ I : Nat → List PyData → List (Option DO) → Prop, I 0 [] S1.μ ∧ (∀ i acc μ, i ≤ ys.length → I i acc μ → St ⟨wipeD S1.ρ vs, μ⟩) ∧
  (∀ i y acc μ, ys[i]? = some y → I i acc μ → dg y ⟨wipeD S1.ρ vs, μ⟩ fun S3 => dt S3 fun b S4 => if b = true then de S4 fun d S5 => match d.imm? with
    | some p => I (i + 1) (acc ++ [p]) S5.μ
    | none => False else I (i + 1) acc S4.μ) ∧ ys.length < sizeLine ∧ ∀ acc μ, I ys.length acc μ → R acc ⟨S1.ρ, μ⟩
def dLc (di : DTI) (dg : DTG) (dt : DTT) (de : DTE) (vs : List Nat) : DTE := fun S R => dLcP di dg dt de vs S fun acc S1 => R (.imm (.list acc)) S1
/-- the new list becomes a cell -/
def dLcC (di : DTI) (dg : DTG) (dt : DTT) (de : DTE) (vs : List Nat) : DTE := fun S R => dLcP di dg dt de vs S fun acc S1 => R (.cell S1.μ.length) (S1.new (.lst (acc.map DV.imm)))

section
variable {P : Program} {w : World} {K : PySem.W.Frag} {B : Bs} {S S' : DSt} {σ : L2.St} {ts : List (V × DV)} {H F F' : Hp} {α : List Addr} {v : V} {d : DV} {wi : TI} {di : DTI} {g : TG} {dg : DTG} {tb : TS} {db : DTS} {js : List Nat}
theorem snd_for (hi : SndI P w K wi di) (hg : SndG P w K js g dg) (hb : SndS P w K tb db) : SndS P w K (tFor wi g tb) (dFor di dg db) := fun B S σ ts H D G h hd l =>
  hi B S σ ts H _ _ h hd fun ys St S1 H1 J Gp Y us hr o wk hG hY => by
    obtain ⟨I, h0, hst, hs, hdn⟩ := hr
    refine for_it wk (fun i σ2 H2 => ∃ S2, I i S2 ∧ StOk P w K B S2 σ2 (us ++ ts) H2) ⟨S1, h0, o⟩ (fun i σ2 H2 hi' ⟨S2, q, o2⟩ => hG B S2 σ2 H2 _ (fun p hp => List.mem_append_left _ hp) (hst i S2 hi' q) o2) (fun i x σ2 H2 H3 hi' ⟨S2, q, o2⟩ y => ?_) (fun σ2 H2 ⟨S2, q, o2⟩ => l.nx S2 σ2 H2 (hdn S2 q) (o2.sub fun p hp => List.mem_append_right _ hp))
    obtain ⟨yy, e1, sy⟩ := hY B i S2 σ2 H2 x H3 _ hi' (fun p hp => List.mem_append_left _ hp) (hst i S2 (Nat.le_of_lt hi') q) o2 y
    refine hg B S2 σ2 (us ++ ts) H3 x yy _ _ sy (hs i yy S2 e1 q) fun S3 σ3 H4 q3 _ _ o3 => ?_
    refine hb B S3 σ3 (us ++ ts) H4 _ _ o3 q3 ⟨fun S4 σ4 H5 q4 o4 => ⟨S4, q4, o4⟩, fun v d S4 σ4 H5 q4 o4 => l.rt v d S4 σ4 H5 q4 (o4.sub fun p hp => ?_), fun S4 σ4 H5 q4 o4 => l.nx S4 σ4 H5 q4 (o4.sub fun p hp => List.mem_append_right _ hp), fun S4 σ4 H5 q4 o4 => ⟨S4, q4, o4⟩⟩
    rcases List.mem_cons.mp hp with e | hp
    · subst e; exact List.mem_cons_self
    · exact List.mem_cons_of_mem _ (List.mem_append_right _ hp)
theorem snd_while {tc : TT} {dc : DTT} (hc : SndT P w K tc dc) (hb : SndS P w K tb db) : SndS P w K (tWhile tc tb) (dWhile dc db) := fun B S σ ts H D G h hd l => by
  obtain ⟨I, ⟨m0, h0⟩, hs⟩ := hd
  refine ⟨fun m σ2 H2 => ∃ S2, I m S2 ∧ StOk P w K B S2 σ2 ts H2, ⟨m0, S, h0, h⟩, fun m σ2 H2 ⟨S2, q, o⟩ => hc B S2 σ2 ts H2 _ _ o (hs m S2 q) fun b S3 H3 q3 o3 => ?_⟩
  cases b with
  | false => exact l.nx S3 σ2 H3 q3 o3
  | true =>
    refine ⟨fun σ4 H4 => ∃ m', m' < m ∧ ∃ S4, I m' S4 ∧ StOk P w K B S4 σ4 ts H4, fun σ4 H4 z => z, hb B S3 σ2 ts H3 _ _ o3 q3 ⟨fun S4 σ4 H4 ⟨m', e, q4⟩ o4 => ⟨m', e, S4, q4, o4⟩, l.rt, l.nx, fun S4 σ4 H4 ⟨m', e, q4⟩ o4 => ⟨m', e, S4, q4, o4⟩⟩⟩
theorem wipeD_get {ρ : List (Option DV)} {σ : L2.St} : ∀ (vs : List Nat) (i : Nat) (d : DV), (wipeD ρ vs)[i]? = some (some d) → i ∉ vs ∧ ρ[i]? = some (some d) ∧ (wipe σ vs)[i]? = σ[i]?
  | [], i, d, h => ⟨by simp, h, rfl⟩
  | v :: vs, i, d, h => by
    have h' : ((wipeD ρ vs).set v none)[i]? = some (some d) := h
    by_cases c : v = i
    · subst c
      by_cases hv : v < (wipeD ρ vs).length
      · rw [List.getElem?_set_self hv] at h'; cases h'
      · rw [List.getElem?_eq_none (by rw [List.length_set]; omega)] at h'; cases h'
    · rw [List.getElem?_set_ne c] at h'
      obtain ⟨h1, h2, h3⟩ := wipeD_get vs i d h'
      refine ⟨fun q => ?_, h2, ?_⟩
      · rcases List.mem_cons.mp q with e | e
        · exact c e.symm
        · exact h1 e
      · show ((wipe σ vs).set v none)[i]? = σ[i]?
        rw [List.getElem?_set_ne c]; exact h3
theorem wipeD_length (ρ : List (Option DV)) : ∀ vs : List Nat, (wipeD ρ vs).length = ρ.length
  | [] => rfl
  | v :: vs => by show ((wipeD ρ vs).set v none).length = _; rw [List.length_set, wipeD_length ρ vs]
theorem StAt.slots {ρ' : List (Option DV)} {σ' : L2.St} (h : StAt P w K B S σ ts H F α) (hl : ρ'.length = σ'.length) (hs : ∀ (i : Nat) (d : DV), ρ'[i]? = some (some d) → ∃ v, σ'[i]? = some (some v) ∧ VOk P w K F α v d) : StAt P w K B ⟨ρ', S.μ⟩ σ' ts H F α :=
  ⟨h.fh, h.bh, h.bf, h.bc, h.bp, h.bn, h.nd, h.al, h.an, hl, hs, h.tm, h.ce⟩
theorem StAt.wipe (h : StAt P w K B S σ ts H F α) (vs : List Nat) : StAt P w K B ⟨wipeD S.ρ vs, S.μ⟩ (L2.wipe σ vs) ts H F α :=
  h.slots (by rw [wipeD_length, wipe_length, h.len]) fun i d q => by
    obtain ⟨_, h2, h3⟩ := wipeD_get (σ := σ) vs i d q
    obtain ⟨v, g1, g2⟩ := h.sl i d h2
    exact ⟨v, h3.trans g1, g2⟩
/-- an object that is not known yet grows -/
theorem StAt.free (h : StAt P w K B S σ ts H F α) {p : Addr} {o : HO} (hp : p ∉ α) (hF : F p = none) (hB : B.H p = none) : StAt P w K B S σ ts (upd H p o) F α := by
  have ne : ∀ {a : Addr}, a ∈ α → a ≠ p := fun q e => hp (e ▸ q)
  refine ⟨fun a v q => ?_, h.bh, h.bf, fun a v q1 q2 q3 => ?_, h.bp, h.bn, h.nd, h.al, fun a q => ?_, h.len, h.sl, h.tm, fun k v q => ?_⟩
  · have c : a ≠ p := fun e => by rw [e, hF] at q; cases q
    rw [upd_ne c]; exact h.fh a v q
  · obtain ⟨h1, h2, h3⟩ := h.bc a v q1 q2 q3
    have c : a ≠ p := fun e => by rw [e, hB] at q1; cases q1
    exact ⟨by rw [upd_ne c]; exact h1, h2, h3⟩
  · rw [upd_ne (ne q)]; exact h.an a q
  · obtain ⟨a, h1, h2, h3⟩ := h.ce k v q
    have c := ne (List.mem_of_getElem? h1)
    exact ⟨a, h1, h2, h3.up0 (Ex.refl _) (upd_ne c)⟩
/-- the state as a base of its own, and back -/
theorem StAt.base (h : StAt P w K B S σ ts H F α) : StAt P w K ⟨F, H, α⟩ S σ ts H F α :=
  ⟨h.fh, h.fh, Ex.refl _, fun a o q1 q2 q3 => ⟨q1, q2, q3⟩, List.take_length, fun a q => .inl q, h.nd, h.al, h.an, h.len, h.sl, h.tm, h.ce⟩
theorem StAt.rebase {σ' : L2.St} {ts' : List (V × DV)} {H' : Hp} {β : List Addr} (h : StAt P w K B S σ ts H F α) (h' : StAt P w K ⟨F, H, α⟩ S' σ' ts' H' F' β) : StAt P w K B S' σ' ts' H' F' β := by
  have hbl : B.ps.length ≤ α.length := by
    have := congrArg List.length h.bp
    rw [List.length_take] at this
    omega
  refine ⟨h'.fh, h.bh, h.bf.trans h'.bf, fun a o q1 q2 q3 => ?_, ?_, fun a q => ?_, h'.nd, h'.al, h'.an, h'.len, h'.sl, h'.tm, h'.ce⟩
  · obtain ⟨h1, h2, h3⟩ := h.bc a o q1 q2 q3
    exact h'.bc a o h1 h2 h3
  · have e : β.take α.length = α := h'.bp
    have e2 : β.take B.ps.length = α.take B.ps.length := by
      rw [← e, List.take_take, Nat.min_eq_left hbl]
    rw [e2, h.bp]
  · rcases h'.bn a q with z | z
    · exact h.bn a z
    · exact .inr (h.freshB z)
/-- what was known goes on to be -/
theorem StAt.known {σ' : L2.St} {ts' : List (V × DV)} {H' : Hp} {β : List Addr} (h' : StAt P w K ⟨F, H, α⟩ S' σ' ts' H' F' β) (hv : VOk P w K F α v d) : VOk P w K F' β v d := by
  have e : β.take α.length = α := h'.bp
  have := VOk.up (β := β.drop α.length) h'.bf hv
  have e3 := List.take_append_drop α.length β
  rw [e] at e3
  rwa [e3] at this
theorem wipe_none (σ : L2.St) (j : Nat) : ∀ vs : List Nat, j ∈ vs → (wipe σ vs).set j none = wipe σ vs
  | v :: vs, h => by
    show ((wipe σ vs).set v none).set j none = (wipe σ vs).set v none
    by_cases c : v = j
    · subst c; rw [List.set_set]
    · rw [List.set_comm _ _ c, wipe_none σ j vs (by
        rcases List.mem_cons.mp h with e | e
        · exact absurd e.symm c
        · exact e)]
theorem wipe_wipe (σ : L2.St) (vs : List Nat) : ∀ us : List Nat, (∀ u ∈ us, u ∈ vs) → wipe (wipe σ vs) us = wipe σ vs
  | [], _ => rfl
  | u :: us, h => by
    show (wipe (wipe σ vs) us).set u none = wipe σ vs
    rw [wipe_wipe σ vs us fun z hz => h z (List.mem_cons_of_mem _ hz), wipe_none σ u vs (h u List.mem_cons_self)]
theorem rp_of_zip {F : Hp} : ∀ {xs : List V} {ps : List PyData}, xs.length = ps.length → (∀ p ∈ xs.zip (ps.map DV.imm), VOk P w K F α p.1 p.2) → RpAll P w K F xs ps
  | [], [], _, _ => .nil
  | [], _ :: _, h, _ => by simp at h
  | _ :: _, [], h, _ => by simp at h
  | x :: xs, p :: ps, h, q => .cons (q (x, .imm p) (by simp)) (rp_of_zip (by simpa using h) fun z hz => q z (by simp [hz]))
theorem snd_lcP {tt : TT} {dt : DTT} {te : TE} {de : DTE} {vs : List Nat} (hi : SndI P w K wi di) (hg : SndG P w K js g dg) (ht : SndT P w K tt dt) (he : SndE P w K te de) (hj : ∀ j ∈ js, j ∈ vs) :
    ∀ (B : Bs) (S : DSt) (σ : L2.St) (ts : List (V × DV)) (H : Hp) (R : List PyData → DSt → Prop) (Q : VK), StOk P w K B S σ ts H → dLcP di dg dt de vs S R →
    (∀ (D : Addr) acc ps S' H' F α, R ps S' → StAt P w K B S' σ ts H' F α → H' D = some (.lst acc) → F D = none → D ∉ α → B.H D = none → RpAll P w K F acc ps → Q (.ref D) H') → tLc wi g tt te vs σ H Q := fun B S σ ts H R Q h hd k =>
  hi B S σ ts H _ _ h hd fun ys St S1 H1 J Gp Y us hr o wk hG hY => by
    obtain ⟨I, h0, hst, hs, hz, hdn⟩ := hr
    obtain ⟨F1, α1, o1⟩ := o
    intro D hD
    have b1 := o1.base
    have hF1 : F1 D = none := o1.freeF hD
    have hα1 : D ∉ α1 := fun q => o1.an D q hD
    let ρw := wipeD S1.ρ vs
    let B1 : Bs := ⟨F1, H1, α1⟩
    refine lc_it wk (fun i H2 => ∃ acc ps μ F α, I i ps μ ∧ acc.length = ps.length ∧ acc.length ≤ i ∧ StAt P w K B1 ⟨ρw, μ⟩ (wipe σ vs) (acc.zip (ps.map DV.imm) ++ (us ++ ts)) H2 F α ∧ H2 D = some (.lst acc) ∧ F D = none ∧ D ∉ α)
      ⟨[], [], S1.μ, F1, α1, h0, rfl, Nat.le_refl _, ((b1.wipe vs).free hα1 hF1 hD), upd_same, hF1, hα1⟩ ?_ ?_ ?_
    · rintro i H2 hi' ⟨acc, ps, μ, F, α, q, hl, _, o2, _, _, _⟩
      exact hG B1 _ (wipe σ vs) H2 _ (fun p hp => List.mem_append_right _ (List.mem_append_left _ hp)) (hst i ps μ hi' q) o2.ok
    · rintro i x H2 H3 hi' ⟨acc, ps, μ, F, α, q, hl, hli, o2, hD2, hF2, hα2⟩ y
      have b2 := o2.base
      obtain ⟨yy, e1, sy⟩ := hY ⟨F, H2, α⟩ i ⟨ρw, μ⟩ (wipe σ vs) H2 x H3 _ hi' (fun p hp => List.mem_append_right _ (List.mem_append_left _ hp)) (hst i ps μ (Nat.le_of_lt hi') q) b2.ok y
      refine hg _ _ _ _ H3 x yy _ _ sy (hs i yy ps μ e1 q) fun S3 σ3 H4 q3 _ hw o3 => ⟨?_, ?_⟩
      · rw [hw vs hj, wipe_wipe σ vs vs fun _ z => z]
      · refine ht _ S3 σ3 _ H4 _ _ o3 q3 fun b S4 H5 q4 o4 => ?_
        cases b with
        | false =>
          obtain ⟨F5, α5, o5⟩ := o4
          obtain ⟨d1, d2, d3⟩ := o5.bc D _ hD2 hF2 hα2
          have o6 := o2.rebase o5
          refine ⟨acc, ps, S4.μ, F5, α5, q4, hl, Nat.le_succ_of_le hli, o6.slots (o2.len) (fun j e r => ?_), d1, d2, d3⟩
          obtain ⟨v, g1, g2⟩ := o2.sl j e r
          exact ⟨v, g1, o5.known g2⟩
        | true =>
          refine he _ S4 σ3 _ H5 _ _ o4 q4 fun y' d' S5 H6 q5 o5 => ?_
          obtain ⟨F6, α6, o6⟩ := o5
          obtain ⟨d1, d2, d3⟩ := o6.bc D _ hD2 hF2 hα2
          have o7 := o2.rebase o6
          refine ⟨acc, d1, ?_, ?_⟩
          · exact Nat.lt_of_le_of_lt hli (Nat.lt_trans hi' hz)
          cases e5 : d'.imm? with
          | none => rw [e5] at q5; exact q5.elim
          | some p =>
            rw [e5] at q5
            refine ⟨acc ++ [y'], ps ++ [p], S5.μ, F6, α6, q5, by simp [hl], by rw [List.length_append, List.length_singleton]; omega, ?_, upd_same, d2, d3⟩
            have o8 : StAt P w K B1 ⟨ρw, S5.μ⟩ (wipe σ vs) _ H6 F6 α6 := o7.slots (o2.len) fun j e r => by
              obtain ⟨v, g1, g2⟩ := o2.sl j e r
              exact ⟨v, g1, o6.known g2⟩
            refine (o8.free d3 d2 hD).sub fun z hz' => ?_
            rw [imm?_eq e5]
            rw [List.map_append, List.zip_append (by rw [List.length_map]; exact hl)] at hz'
            rcases List.mem_append.mp hz' with hz' | hz'
            · rcases List.mem_append.mp hz' with hz' | hz'
              · exact List.mem_cons_of_mem _ (List.mem_append_left _ hz')
              · have e6 : z = (y', .imm p) := by simpa using hz'
                rw [e6]; exact List.mem_cons_self
            · exact List.mem_cons_of_mem _ (List.mem_append_right _ hz')
    · rintro H2 ⟨acc, ps, μ, F, α, q, hl, _, o2, hD2, hF2, hα2⟩
      have rr : RpAll P w K F acc ps := rp_of_zip hl fun p hp => o2.tm p (List.mem_append_left _ hp)
      have o3 : StAt P w K B1 ⟨S1.ρ, μ⟩ σ (us ++ ts) H2 F α := (o2.sub fun p hp => List.mem_append_right _ hp).slots o1.len fun j e r => by
        obtain ⟨v, g1, g2⟩ := o1.sl j e r
        exact ⟨v, g1, o2.known g2⟩
      have o4 := o1.rebase o3
      exact k D acc ps _ H2 F α (hdn ps μ q) (o4.sub fun p hp => List.mem_append_right _ hp) hD2 hF2 hα2 (o1.freshB hD) rr
/-- a list that nobody holds is frozen -/
theorem StAt.frzNew {D : Addr} {acc : List V} {ps : List PyData} (o4 : StAt P w K B S σ ts H F α) (hD2 : H D = some (.lst acc)) (hF2 : F D = none) (hα2 : D ∉ α) (hB : B.H D = none) (rr : RpAll P w K F acc ps) :
    StAt P w K B S σ ((.ref D, .imm (.list ps)) :: ts) H (upd F D (.lst acc)) α := by
  have e : Ex F (upd F D (.lst acc)) := Ex.new hF2
  refine ⟨fun b v z => ?_, o4.bh, o4.bf.trans e, fun b v q1 q2 q3 => ?_, o4.bp, o4.bn, o4.nd, o4.al, o4.an, o4.len, fun i d z => ?_, fun z hz' => ?_, fun j v z => ?_⟩
  · by_cases c : b = D
    · subst c; rw [upd_same] at z; cases z; exact hD2
    · rw [upd_ne c] at z; exact o4.fh b v z
  · obtain ⟨h1, h2, h3⟩ := o4.bc b v q1 q2 q3
    have c : b ≠ D := fun z => by rw [z, hB] at q1; cases q1
    exact ⟨h1, by rw [upd_ne c]; exact h2, h3⟩
  · obtain ⟨v, h1, h2⟩ := o4.sl i d z
    exact ⟨v, h1, h2.up0 e⟩
  · rcases List.mem_cons.mp hz' with c | hz'
    · subst c; exact Rp.lst upd_same (rr.up e)
    · exact (o4.tm z hz').up0 e
  · obtain ⟨b, h1, h2, h3⟩ := o4.ce j v z
    have c : b ≠ D := fun z => hα2 (z ▸ List.mem_of_getElem? h1)
    exact ⟨b, h1, by rw [upd_ne c]; exact h2, h3.up0 e rfl⟩
theorem snd_lc {tt : TT} {dt : DTT} {te : TE} {de : DTE} {vs : List Nat} (hi : SndI P w K wi di) (hg : SndG P w K js g dg) (ht : SndT P w K tt dt) (he : SndE P w K te de) (hj : ∀ j ∈ js, j ∈ vs) :
    SndE P w K (tLc wi g tt te vs) (dLc di dg dt de vs) := fun B S σ ts H R Q h hd k =>
  snd_lcP hi hg ht he hj B S σ ts H _ Q h hd fun D acc ps S' H' F α r o h1 h2 h3 h4 rr => k _ _ S' H' r (o.frzNew h1 h2 h3 h4 rr).ok
end

/-! ## the walks -/
section
variable {P : Program} {w : World} {K : PySem.W.Frag} {B : Bs} {S S' : DSt} {σ : L2.St} {ts : List (V × DV)} {H F F' : Hp} {α : List Addr} {v : V} {d : DV}
theorem pget {V1 D1 : Type} {r : V1 → D1 → Prop} : ∀ {xs : List V1} {ds : List D1} (i : Nat) {x : V1}, Paired r xs ds → xs[i]? = some x → ∃ d, ds[i]? = some d ∧ r x d
  | _, _, _, _, .nil, h => by simp at h
  | _, _, 0, x, .cons h _, e => by simp at e; subst e; exact ⟨_, rfl, h⟩
  | _, _, i + 1, x, .cons _ t, e => by
    obtain ⟨d, h1, h2⟩ := pget i t (by simpa using e)
    exact ⟨d, by simpa using h1, h2⟩
/-- what a list, a tuple, a text yields; a cell must keep its items -/
def DSt.items (S : DSt) (d : DV) : Option (List DV × (DSt → Prop)) :=
  match d with
  | .cell k => match S.cell k with
    | some (.lst ds) => some (ds, fun S' => S'.cell k = some (.lst ds))
    | _ => none
  | _ => match S.seq d with
    | some (_, ds) => some (ds, fun _ => True)
    | none => match d.str? with
      | some z => some (z.cps.toList.map fun c => dS ⟨#[c]⟩, fun _ => True)
      | none => none
def diAny (de : DTE) : DTI := fun S R => de S fun d S1 => match S1.items d with
  | some (ds, St) => R (ds.map DY.one) St S1
  | none => False
theorem snd_any {te : TE} {de : DTE} (he : SndE P w K te de) : SndI P w K (iAny K te) (diAny de) := fun B S σ ts H R Q h hd k =>
  he B S σ ts H _ _ h hd fun x dx S1 H1 q o => by
    cases e : S1.items dx with
    | none => rw [e] at q; exact q.elim
    | some p =>
      obtain ⟨ds, St⟩ := p
      rw [e] at q
      have go : ∀ (b : Bool), (∀ (B2 : Bs) (S2 : DSt) (σ2 : L2.St) (H2 : Hp) (vs : List (V × DV)), (x, dx) ∈ vs → St S2 → StOk P w K B2 S2 σ2 vs H2 → S2.seq dx = some (b, ds)) → St S1 →
          (∃ a, x = .ref a ∧ (∃ xs, SqL K H1 a xs) ∧ Q (Itl K a) H1) ∨ (∃ a, x = .ref a ∧ (∃ xs, SqT K H1 a xs) ∧ Q (Itt K a) H1) := fun b hk hs1 => by
        obtain ⟨F, α, o1⟩ := o
        obtain ⟨a, xs, rfl, hq, hp⟩ := o1.seq o1.top (hk B S1 σ H1 _ (by simp) hs1 o1.ok)
        have hl : xs.length = (ds.map DY.one).length := by rw [List.length_map]; exact Paired.length hp
        have same : ∀ (B2 : Bs) (S2 : DSt) (σ2 : L2.St) (H2 : Hp) (vs : List (V × DV)), (V.ref a, dx) ∈ vs → St S2 → ∀ F2 α2, StAt P w K B2 S2 σ2 vs H2 F2 α2 → ∃ zs, (if b = true then SqL K H2 a zs else SqT K H2 a zs) ∧ Paired (VOk P w K F2 α2) zs ds := fun B2 S2 σ2 H2 vs hv hs2 F2 α2 o2 => by
          obtain ⟨a', zs, e1, e2, e3⟩ := o2.seq (o2.tm _ hv) (hk B2 S2 σ2 H2 vs hv hs2 o2.ok)
          cases e1
          exact ⟨zs, e2, e3⟩
        cases b with
        | true =>
          refine .inl ⟨a, rfl, ⟨xs, hq⟩, k (ds.map DY.one) St S1 H1 (Itl K a) (fun H2 => ∃ zs, SqL K H2 a zs ∧ zs.length = ds.length) (fun i H2 v H3 => H3 = H2 ∧ ∀ zs, SqL K H2 a zs → zs[i]? = some v) [(.ref a, dx)] q o1.ok ⟨fun i H2 hi ⟨zs, z1, z2⟩ => ⟨zs, zs[i]'(by rw [z2]; simpa using hi), z1, by simp [z2, show i < ds.length by simpa using hi]⟩, fun H2 ⟨zs, z1, z2⟩ => ⟨zs, z1, by rw [z2, List.length_map]; exact Nat.le_refl _⟩, fun i H2 v H3 hi _ y => y⟩ (fun B2 S2 σ2 H2 vs hv hs2 ⟨F2, α2, o2⟩ => ?_) (fun B2 i S2 σ2 H2 v H3 vs hi hv hs2 ⟨F2, α2, o2⟩ y => ?_)⟩
          · obtain ⟨zs, z1, z2⟩ := same B2 S2 σ2 H2 vs (hv _ (by simp)) hs2 F2 α2 o2
            exact ⟨zs, z1, Paired.length z2⟩
          · obtain ⟨zs, z1, z2⟩ := same B2 S2 σ2 H2 vs (hv _ (by simp)) hs2 F2 α2 o2
            obtain ⟨rfl, y⟩ := y
            obtain ⟨d, d1, d2⟩ := pget i z2 (y zs z1)
            exact ⟨.one d, by rw [List.getElem?_map, d1]; rfl, F2, α2, o2, d2⟩
        | false =>
          refine .inr ⟨a, rfl, ⟨xs, hq⟩, k (ds.map DY.one) St S1 H1 (Itt K a) (fun H2 => ∃ zs, SqT K H2 a zs ∧ zs.length = ds.length) (fun i H2 v H3 => H3 = H2 ∧ ∀ zs, SqT K H2 a zs → zs[i]? = some v) [(.ref a, dx)] q o1.ok ⟨fun i H2 hi ⟨zs, z1, z2⟩ => ⟨zs, zs[i]'(by rw [z2]; simpa using hi), z1, by simp [z2, show i < ds.length by simpa using hi]⟩, fun H2 ⟨zs, z1, z2⟩ => ⟨zs, z1, by rw [z2, List.length_map]; exact Nat.le_refl _⟩, fun i H2 v H3 hi _ y => y⟩ (fun B2 S2 σ2 H2 vs hv hs2 ⟨F2, α2, o2⟩ => ?_) (fun B2 i S2 σ2 H2 v H3 vs hi hv hs2 ⟨F2, α2, o2⟩ y => ?_)⟩
          · obtain ⟨zs, z1, z2⟩ := same B2 S2 σ2 H2 vs (hv _ (by simp)) hs2 F2 α2 o2
            exact ⟨zs, z1, Paired.length z2⟩
          · obtain ⟨zs, z1, z2⟩ := same B2 S2 σ2 H2 vs (hv _ (by simp)) hs2 F2 α2 o2
            obtain ⟨rfl, y⟩ := y
            obtain ⟨d, d1, d2⟩ := pget i z2 (y zs z1)
            exact ⟨.one d, by rw [List.getElem?_map, d1]; rfl, F2, α2, o2, d2⟩
      have plain : ∀ (b : Bool) (_ : S1.seq dx = some (b, ds)) (_ : ∀ S2 : DSt, S2.seq dx = S1.seq dx) (_ : St = fun _ => True), (∃ a, x = .ref a ∧ (∃ xs, SqL K H1 a xs) ∧ Q (Itl K a) H1) ∨ (∃ a, x = .ref a ∧ (∃ xs, SqT K H1 a xs) ∧ Q (Itt K a) H1) := fun b e1 e2 e3 => by
        refine go b (fun B2 S2 σ2 H2 vs hv hs2 o2 => by rw [e2]; exact e1) (by rw [e3]; trivial)
      have join : (∃ a, x = .ref a ∧ (∃ xs, SqL K H1 a xs) ∧ Q (Itl K a) H1) ∨ (∃ a, x = .ref a ∧ (∃ xs, SqT K H1 a xs) ∧ Q (Itt K a) H1) → (∃ a, x = .ref a ∧ (∃ xs, SqL K H1 a xs) ∧ Q (Itl K a) H1) ∨ (∃ a, x = .ref a ∧ (∃ xs, SqT K H1 a xs) ∧ Q (Itt K a) H1) ∨ (∃ z, x = .str z ∧ Q (Its z) H1) := fun z => z.elim .inl fun z => .inr (.inl z)
      cases dx with
      | cell j =>
        have e' : (match S1.cell j with | some (.lst ds) => some (ds, fun S' : DSt => S'.cell j = some (.lst ds)) | _ => none) = some (ds, St) := e
        cases e1 : S1.cell j with
        | none => rw [e1] at e'; cases e'
        | some u =>
          rw [e1] at e'
          cases u with
          | lst es =>
            cases e'
            exact join (go true (fun B2 S2 σ2 H2 vs hv hs2 o2 => by
              show (match S2.cell j with | some (.lst ds) => some (true, ds) | _ => none) = _
              rw [show S2.cell j = some (DO.lst ds) from hs2]) e1)
          | dic _ => cases e'
          | ins _ _ => cases e'
          | ho _ => cases e'
          | lck _ _ => cases e'
          | tdk _ => cases e'
      | raw u => cases e
      | obj φ => cases e
      | scr ns =>
        cases e
        exact join (plain true rfl (fun _ => rfl) rfl)
      | imm p =>
        cases p with
        | list ps => cases e; exact join (plain true rfl (fun _ => rfl) rfl)
        | tuple ps => cases e; exact join (plain false rfl (fun _ => rfl) rfl)
        | str z =>
          cases e
          obtain ⟨F, α, o1⟩ := o
          refine .inr (.inr ⟨z, vok_str o1.top, k _ _ S1 H1 (Its z) (fun _ => True) (fun i H2 v H3 => H3 = H2 ∧ ∃ c, z.cps[i]? = some c ∧ v = .str ⟨#[c]⟩) [] q (o1.sub mem1).ok ?_ (fun _ _ _ _ _ _ _ _ => trivial) fun B2 i S2 σ2 H2 v H3 vs hi hv hs2 ⟨F2, α2, o2⟩ y => ?_⟩)
          · rw [List.length_map, List.length_map, Array.length_toList]; exact walk_str
          · obtain ⟨rfl, c, hc, rfl⟩ := y
            refine ⟨.one (dS ⟨#[c]⟩), ?_, F2, α2, o2, Rp.str _⟩
            rw [List.getElem?_map, List.getElem?_map, Array.getElem?_toList, hc]; rfl
        | none => cases e
        | bool _ => cases e
        | int _ => cases e
        | dict _ => cases e
/-! ### range -/
def rangeD (lo : Int) (n : Nat) : List DY := (List.range n).map fun (i : Nat) => DY.one (dI (lo + (i : Int)))
theorem range_get {lo : Int} {n i : Nat} {y : DY} (h : (rangeD lo n)[i]? = some y) : i < n ∧ y = .one (dI (lo + (i : Int))) := by
  unfold rangeD at h
  rw [List.getElem?_map] at h
  by_cases c : i < n
  · rw [List.getElem?_range c] at h
    cases h
    exact ⟨c, rfl⟩
  · rw [List.getElem?_eq_none (by simp; omega)] at h
    cases h
theorem get_range {lo : Int} {n i : Nat} (h : i < n) : (rangeD lo n)[i]? = some (.one (dI (lo + (i : Int)))) := by
  unfold rangeD
  rw [List.getElem?_map, List.getElem?_range h]
  rfl
theorem range_len (lo : Int) (n : Nat) : (rangeD lo n).length = n := by unfold rangeD; rw [List.length_map, List.length_range]
def diRange1 (da : DTA) : DTI := fun S R => da S fun ds S1 => match ds with
  | [d] => match d.int? with
    | some j => (-(2 ^ 62) ≤ j ∧ j < 2 ^ 62) ∧ R (rangeD 0 j.toNat) (fun _ => True) S1
    | none => False
  | _ => False
def diRange2 (da : DTA) : DTI := fun S R => da S fun ds S1 => match ds with
  | [c, d] => match c.int?, d.int? with
    | some i, some j => (-(2 ^ 62) ≤ i ∧ i < 2 ^ 62 ∧ -(2 ^ 62) ≤ j ∧ j < 2 ^ 62) ∧ R (rangeD i (j - i).toNat) (fun _ => True) S1
    | _, _ => False
  | _ => False
theorem snd_rng {lo : Int} {n : Nat} {R : List DY → (DSt → Prop) → DSt → Prop} {Q : It → Hp → Prop} {S1 : DSt} {H1 : Hp} (q : R (rangeD lo n) (fun _ => True) S1) (o : StOk P w K B S1 σ ts H1)
    (k : ∀ (ys : List DY) (St : DSt → Prop) (S1 : DSt) (H1 : Hp) (J : It) (G : Hp → Prop) (Y : Nat → Hp → V → Hp → Prop) (us : List (V × DV)), R ys St S1 → StOk P w K B S1 σ (us ++ ts) H1 → Walk J ys.length G Y →
    (∀ B2 S2 σ2 H2 vs, (∀ p ∈ us, p ∈ vs) → St S2 → StOk P w K B2 S2 σ2 vs H2 → G H2) →
    (∀ B2 i S2 σ2 H2 x H3 vs, i < ys.length → (∀ p ∈ us, p ∈ vs) → St S2 → StOk P w K B2 S2 σ2 vs H2 → Y i H2 x H3 → ∃ y, ys[i]? = some y ∧ StY P w K B2 S2 σ2 vs H3 x y) → Q J H1) : Q (Itr lo n) H1 := by
  refine k (rangeD lo n) (fun _ => True) S1 H1 (Itr lo n) _ _ [] q o (by rw [range_len]; exact walk_range) (fun _ _ _ _ _ _ _ _ => trivial) fun B2 i S2 σ2 H2 v H3 vs hi hv hs2 ⟨F2, α2, o2⟩ y => ?_
  obtain ⟨rfl, rfl⟩ := y
  rw [range_len] at hi
  exact ⟨_, get_range hi, F2, α2, o2, Rp.int _⟩
theorem snd_range1 {ta : TA} {da : DTA} (ha : SndA P w K ta da) : SndI P w K (iRng1 ta) (diRange1 da) := fun B S σ ts H R Q h hd k =>
  ha B S σ ts H _ _ h hd fun xs ds S1 H1 hl q o => by
    match ds, q with
    | [d], q =>
      match xs, hl with
      | [x], _ =>
        have q' : match d.int? with | some j => (-(2 ^ 62) ≤ j ∧ j < 2 ^ 62) ∧ R (rangeD 0 j.toNat) (fun _ => True) S1 | none => False := q
        split at q'
        · rename_i j e
          rw [int?_eq e] at o
          obtain ⟨F, α, o1⟩ := o
          have hx : x = V.int j := vok_int (o1.tm (x, dI j) (by simp))
          exact ⟨j, by rw [hx], q'.1.1, q'.1.2, snd_rng q'.2 (o1.sub memA).ok k⟩
        · exact q'.elim
theorem snd_range2 {ta : TA} {da : DTA} (ha : SndA P w K ta da) : SndI P w K (iRng2 ta) (diRange2 da) := fun B S σ ts H R Q h hd k =>
  ha B S σ ts H _ _ h hd fun xs ds S1 H1 hl q o => by
    match ds, q with
    | [c, d], q =>
      match xs, hl with
      | [x, y], _ =>
        have q' : match c.int?, d.int? with | some i, some j => (-(2 ^ 62) ≤ i ∧ i < 2 ^ 62 ∧ -(2 ^ 62) ≤ j ∧ j < 2 ^ 62) ∧ R (rangeD i (j - i).toNat) (fun _ => True) S1 | _, _ => False := q
        split at q'
        · rename_i i j e1 e2
          rw [int?_eq e1, int?_eq e2] at o
          obtain ⟨F, α, o1⟩ := o
          have hx : x = V.int i := vok_int (o1.tm (x, dI i) (by simp))
          have hy : y = V.int j := vok_int (o1.tm (y, dI j) (by simp))
          exact ⟨i, j, by rw [hx, hy], q'.1, snd_rng q'.2 (o1.sub memA).ok k⟩
        · exact q'.elim
/-! ### enumerate -/
def enumD (ds : List DV) : List DY := (List.range ds.length).zipWith (fun i d => DY.two (dI ((i : Nat) : Int)) d) ds
theorem enumD_len (ds : List DV) : (enumD ds).length = ds.length := by unfold enumD; rw [List.length_zipWith, List.length_range, Nat.min_self]
theorem enumD_get {ds : List DV} {i : Nat} {d : DV} (h : ds[i]? = some d) : (enumD ds)[i]? = some (.two (dI ((i : Nat) : Int)) d) := by
  unfold enumD
  rw [List.getElem?_zipWith, h, List.getElem?_range (List.getElem?_eq_some_iff.mp h).1]
theorem get_enumD {ds : List DV} {i : Nat} {y : DY} (h : (enumD ds)[i]? = some y) : ∃ d, ds[i]? = some d ∧ y = .two (dI ((i : Nat) : Int)) d := by
  have hi := (List.getElem?_eq_some_iff.mp h).1
  rw [enumD_len] at hi
  have e : ds[i]? = some ds[i] := List.getElem?_eq_getElem hi
  rw [enumD_get e] at h
  cases h
  exact ⟨_, e, rfl⟩
/-- over what never changes -/
def diEnum (da : DTA) : DTI := fun S R => da S fun ds S1 => match ds with
  | [.imm p] => match S1.seq (.imm p) with
    | some (_, es) => R (enumD es) (fun _ => True) S1
    | none => False
  | _ => False
theorem snd_enum {ta : TA} {da : DTA} (ha : SndA P w K ta da) : SndI P w K (iEnumA K ta) (diEnum da) := fun B S σ ts H R Q h hd k =>
  ha B S σ ts H _ _ h hd fun xs ds S1 H1 hl q o => by
    match ds, q with
    | [.imm p], q =>
      match xs, hl with
      | [x], _ =>
        cases e : S1.seq (.imm p) with
        | none =>
          have q' : match S1.seq (.imm p) with | some (_, es) => R (enumD es) (fun _ => True) S1 | none => False := q
          rw [e] at q'; exact q'.elim
        | some z =>
          obtain ⟨b, es⟩ := z
          have q' : match S1.seq (.imm p) with | some (_, es) => R (enumD es) (fun _ => True) S1 | none => False := q
          rw [e] at q'
          have es2 : ∀ S2 : DSt, S2.seq (.imm p) = some (b, es) := fun S2 => by
            rw [← e]; cases p <;> rfl
          obtain ⟨F, α, o1⟩ := o
          obtain ⟨a, zs, rfl, hq, hp⟩ := o1.seq (o1.tm (x, .imm p) (by simp)) e
          have mk : ∀ (J : It) (Rd : Hp → List V → Prop), (∀ H2 us, Rd H2 us ↔ (if b = true then SqL K H2 a us else SqT K H2 a us)) → Walk J zs.length (fun H2 => Rd H2 zs) (YPair (fun i => some (.int (i : Nat))) (fun i => zs[i]?)) → True := fun _ _ _ _ => trivial
          have body : ∀ (J : It), (∀ us : List V, us.length = es.length → True) → True := fun _ _ => trivial
          cases b with
          | true =>
            refine .inl ⟨a, zs, rfl, hq, k (enumD es) (fun _ => True) S1 H1 (Ite K a) (fun H2 => ∃ us, SqL K H2 a us ∧ us.length = es.length) (fun i H2 v H3 => ∃ T x, v = .ref T ∧ H2 T = none ∧ H3 = upd H2 T (.tup [.int (i : Nat), x]) ∧ ∀ us, SqL K H2 a us → us[i]? = some x) [(.ref a, .imm p)] q' (o1.sub fun z hz => by simpa using hz).ok ⟨fun i H2 hi ⟨us, u1, u2⟩ => ⟨us, us[i]'(by rw [u2]; rwa [enumD_len] at hi), u1, by simp [u2, show i < es.length by rwa [enumD_len] at hi]⟩, fun H2 ⟨us, u1, u2⟩ => ⟨us, u1, by rw [u2, enumD_len]; exact Nat.le_refl _⟩, fun i H2 v H3 hi _ y => y⟩ (fun B2 S2 σ2 H2 vs hv _ ⟨F2, α2, o2⟩ => ?_) (fun B2 i S2 σ2 H2 v H3 vs hi hv _ ⟨F2, α2, o2⟩ y => ?_)⟩
            · obtain ⟨a', us, e1, e2, e3⟩ := o2.seq (o2.tm (.ref a, .imm p) (hv _ (by simp))) (es2 S2)
              cases e1
              exact ⟨us, e2, Paired.length e3⟩
            · obtain ⟨a', us, e1, e2, e3⟩ := o2.seq (o2.tm (.ref a, .imm p) (hv _ (by simp))) (es2 S2)
              cases e1
              obtain ⟨T, x, rfl, hT, rfl, hx⟩ := y
              obtain ⟨d, d1, d2⟩ := pget i e3 (hx us e2)
              have hFT := o2.freeF hT
              have hαT : T ∉ α2 := fun z => o2.an T z hT
              exact ⟨_, enumD_get d1, F2, α2, o2.free hαT hFT (o2.freshB hT), T, .int (i : Nat), x, rfl, upd_same, Rp.int _, d2⟩
          | false =>
            refine .inr ⟨a, zs, rfl, hq, k (enumD es) (fun _ => True) S1 H1 (IteT K a) (fun H2 => ∃ us, SqT K H2 a us ∧ us.length = es.length) (fun i H2 v H3 => ∃ T x, v = .ref T ∧ H2 T = none ∧ H3 = upd H2 T (.tup [.int (i : Nat), x]) ∧ ∀ us, SqT K H2 a us → us[i]? = some x) [(.ref a, .imm p)] q' (o1.sub fun z hz => by simpa using hz).ok ⟨fun i H2 hi ⟨us, u1, u2⟩ => ⟨us, us[i]'(by rw [u2]; rwa [enumD_len] at hi), u1, by simp [u2, show i < es.length by rwa [enumD_len] at hi]⟩, fun H2 ⟨us, u1, u2⟩ => ⟨us, u1, by rw [u2, enumD_len]⟩, fun i H2 v H3 hi _ y => y⟩ (fun B2 S2 σ2 H2 vs hv _ ⟨F2, α2, o2⟩ => ?_) (fun B2 i S2 σ2 H2 v H3 vs hi hv _ ⟨F2, α2, o2⟩ y => ?_)⟩
            · obtain ⟨a', us, e1, e2, e3⟩ := o2.seq (o2.tm (.ref a, .imm p) (hv _ (by simp))) (es2 S2)
              cases e1
              exact ⟨us, e2, Paired.length e3⟩
            · obtain ⟨a', us, e1, e2, e3⟩ := o2.seq (o2.tm (.ref a, .imm p) (hv _ (by simp))) (es2 S2)
              cases e1
              obtain ⟨T, x, rfl, hT, rfl, hx⟩ := y
              obtain ⟨d, d1, d2⟩ := pget i e3 (hx us e2)
              have hFT := o2.freeF hT
              have hαT : T ∉ α2 := fun z => o2.an T z hT
              exact ⟨_, enumD_get d1, F2, α2, o2.free hαT hFT (o2.freshB hT), T, .int (i : Nat), x, rfl, upd_same, Rp.int _, d2⟩
end
/-! ## the rules -/
section
variable {X : Cx} {tg e c : Expr} {es : List Expr} {de : DTE} {da : DTA} {dt : DTT} {di : DTI} {dg : DTG} {js : List Nat} {db : DTS} {p pos : Pos} {body : List Stmt}
theorem di_any (he : DE X e de) : DI X tg e (diAny de) := by
  obtain ⟨t, a1, a2⟩ := he.ex
  exact ⟨_, pi_any a1, snd_any a2⟩
theorem di_range1 {a : Expr} (hg : Gl X "range") (hm : X.mg "range" = none) (ha : DA X [a] da) (hs : starEach [a] X.env = [(false, eval a X.env)] := by rfl) : DI X tg (.Call (.Name "range" p) [a] [] pos) (diRange1 da) := by
  obtain ⟨t, a1, a2⟩ := ha.ex
  exact ⟨_, pi_range1 hg hm a1 hs, snd_range1 a2⟩
theorem di_range2 {a b : Expr} (hg : Gl X "range") (hm : X.mg "range" = none) (ha : DA X [a, b] da) (hs : starEach [a, b] X.env = [(false, eval a X.env), (false, eval b X.env)] := by rfl) (hs2 : starEach [b] X.env = [(false, eval b X.env)] := by rfl) :
    DI X tg (.Call (.Name "range" p) [a, b] [] pos) (diRange2 da) := by
  obtain ⟨t, a1, a2⟩ := ha.ex
  exact ⟨_, pi_range2 hg hm a1 hs hs2, snd_range2 a2⟩
theorem di_enum {elts : List Expr} {kk : Nat} {tpos : Pos} (hg : Gl X "enumerate") (hm : X.mg "enumerate" = none) (ha : DA X [e] da) (hs : starEach [e] X.env = [(false, eval e X.env)] := by rfl) :
    DI X (.Tuple elts kk tpos) (.Call (.Name "enumerate" p) [e] [] pos) (diEnum da) := by
  obtain ⟨t, a1, a2⟩ := ha.ex
  exact ⟨_, pi_enumA hg hm a1 hs, snd_enum a2⟩
theorem ds_for (hp : PassesOwn (model X.prog X.w) X.A X.env X.xe) (hc : X.calm = true) (hi : DI X tg e di) (hg : DG X tg js dg) (hb : DSs X body db) (hs : ∀ x, foldedSetIterable e X.env x = pure x := by intro _; rfl) : DS X (.For tg e body [] pos) (dFor di dg db) := by
  obtain ⟨wi, a1, a2⟩ := hi.ex
  obtain ⟨g, b1, b2⟩ := hg.ex
  obtain ⟨t, c1, c2⟩ := hb.ex
  exact ⟨_, ps_for hp hc a1 b1 c1 hs, snd_for a2 b2 c2⟩
theorem ds_while (hp : PassesOwn (model X.prog X.w) X.A X.env X.xe) (hc : DT X c dt) (hb : DSs X body db) : DS X (.While c body [] pos) (dWhile dt db) := by
  obtain ⟨tc, a1, a2⟩ := hc.ex
  obtain ⟨t, c1, c2⟩ := hb.ex
  exact ⟨_, ps_while hp a1 c1, snd_while a2 c2⟩
end
end DL

set_option Elab.async false
set_option linter.all false
set_option maxRecDepth 100000
set_option autoImplicit false
set_option maxHeartbeats 2000000
namespace DL
open PySem PySem.Spec L2
open PyProof.Rows (envOfC)

/-! ## defs: as HandS.FnOk, and no repr is under way -/
structure FnG (P : Program) (w : World) (K : PySem.W.Frag) (mg : Str → Option Value) (base : Heap) (CX : CXT) (k : Nat) (f : Addr) (fd : FuncData) (ps : List Str) (sp : Sp) : Prop where
  len : ∀ vs H Q E, sp vs H Q E → vs.length = ps.length
  run : ∀ (A : Around) (outer : List Env) (s : Shared) (H : Hp) (args : Args) (us : List Value) (vs : List V) (Q : VK) (E : XK), Room k A → A.guards = some [] → Env0 P w K mg base A outer s H → BindsTo s fd args (ps.zip us) → Vals vs us → sp vs H Q E →
    codeAny (model P w) A (.call (.ref f) args) (CR CX outer P w H s Q E) s
theorem FnG.mono {P : Program} {w : World} {K : PySem.W.Frag} {mg : Str → Option Value} {base : Heap} {CX : CXT} {j k : Nat} {f : Addr} {fd : FuncData} {ps : List Str} {sp : Sp} (F : FnG P w K mg base CX j f fd ps sp) (h : j ≤ k) : FnG P w K mg base CX k f fd ps sp :=
  ⟨F.len, fun A outer s H args us vs Q E hr => F.run A outer s H args us vs Q E (hr.mono h)⟩
section
variable {X : Cx} {CX : CXT} {k : Nat} {f C : Addr} {fd : FuncData} {ps ks : List Str} {sp : Sp} {dvs : List V} {ds : List Value} {E : XK} {x m : Str} {p pos apos : Pos} {e o : Expr} {es : List Expr} {ta : TE} {t tk : TA} {kws : List Keyword}
theorem out_fn {pins : List (Addr × Obj)} {σ : L2.St} {H : Hp} {s : Shared} {Q : VK} {args : Args} {us : List Value} {vs : List V} (F : FnG X.prog X.w X.K X.mg X.base CX k f fd ps sp) (hr : Room k X.A) (hgd : X.A.guards = some []) (hx : Passes CX X E)
    (I : Inv X pins σ H s) (hb : BindsTo s fd args (ps.zip us)) (r : Vals vs us) (h : sp vs H Q E) : codeAny (model X.prog X.w) X.A (.call (.ref f) args) (wants (EP X pins σ Q) X.xe) s :=
  codeAny_mono (F.run X.A X.stack s H args us vs Q E hr hgd I.env0 hb r h) fun r s' hq => by
    cases r with
    | error e => exact hx pins σ H s e s' I hq
    | ok fl =>
      cases fl with
      | ret u => exact I.after hq
      | next => exact hq.elim
      | brk => exact hq.elim
      | cont => exact hq.elim
theorem run_fnG {pins : List (Addr × Obj)} {σ : L2.St} {H : Hp} {s : Shared} {Q : VK} {us : List Value} {vs : List V} (F : FnG X.prog X.w X.K X.mg X.base CX k f fd ps sp) (hr : Room k X.A) (hgd : X.A.guards = some []) (hb : Binds X.K fd ps ds) (hd : Vals dvs ds) (hx : Passes CX X E)
    (I : Inv X pins σ H s) (r : Vals vs us) (h : sp (vs ++ dvs) H Q E) : wpAny (model X.prog X.w) X.A (call (.ref f) us) (EP X pins σ Q) X.xe s := by
  have r2 := r.append hd
  have hl : (us ++ ds).length = ps.length := r2.length.symm.trans (F.len _ _ _ _ h)
  exact wpAny_call (out_fn F hr hgd hx I (hb s us I.kIn hl) r2 h)
theorem pe_callG (F : FnG X.prog X.w X.K X.mg X.base CX k f fd ps sp) (hr : Room k X.A) (hgd : X.A.guards = some []) (hg : Gl X x) (hm : X.mg x = some (.ref f)) (hk : PySem.W.keepIn X.K (.ref f) = true) (hb : Binds X.K fd ps ds) (hd : Vals dvs ds) (hx : Passes CX X E)
    (ha : PA X (e :: es) t) (hdb : (x == ("__debug__" : Str)) = false := by decide) (he : starEach (e :: es) X.env = (false, eval e X.env) :: starEach es X.env := by rfl) (hpl : (backTo pos (starEach es X.env)).any (·.1) = false := by rfl) :
    PE X (.Call (.Name x p) (e :: es) [] pos) (tCall sp dvs E t) := ⟨fun pins s σ H Q I h =>
  wpAny_Call_Name_kw (ld_glob I hg hm (PySem.W.callWith_K (h₀ := X.base) I.ok.mod.kin hk (thn (ha.run pos pins s σ H _ I h) fun us s1 ⟨vs, H1, I1, r, q⟩ => ⟨I1.kIn, run_fnG F hr hgd hb hd hx I1 r q⟩) he hpl) hdb)⟩
theorem pe_call0G (F : FnG X.prog X.w X.K X.mg X.base CX k f fd ps sp) (hr : Room k X.A) (hgd : X.A.guards = some []) (hg : Gl X x) (hm : X.mg x = some (.ref f)) (hk : PySem.W.keepIn X.K (.ref f) = true) (hb : Binds X.K fd ps ds) (hd : Vals dvs ds) (hx : Passes CX X E)
    (hdb : (x == ("__debug__" : Str)) = false := by decide) : PE X (.Call (.Name x p) [] [] pos) (tCall sp dvs E tNil) := ⟨fun pins s σ H Q I h =>
  wpAny_Call_Name_kw (ld_glob I hg hm (PySem.W.callWith_K0 I.kIn hk (run_fnG (us := []) F hr hgd hb hd hx I .nil h)) hdb)⟩
variable {g : List Value → List Value → List Value} {gV : List V → List V → List V}
theorem pe_callKG (F : FnG X.prog X.w X.K X.mg X.base CX k f fd ps sp) (hr : Room k X.A) (hgd : X.A.guards = some []) (hg : Gl X x) (hm : X.mg x = some (.ref f)) (hk : PySem.W.keepIn X.K (.ref f) = true) (hb : KBinds X.K fd ps ks g gV) (hx : Passes CX X E)
    (ha : PA X (e :: es) t) (hkw : PK X kws tk) (hall : (backToKw pos (keywordEach kws X.env)).all (·.1.isSome) = true := by rfl) (hks : (backToKw pos (keywordEach kws X.env)).filterMap (·.1) = ks := by rfl)
    (hdb : (x == ("__debug__" : Str)) = false := by decide) (he : starEach (e :: es) X.env = (false, eval e X.env) :: starEach es X.env := by rfl)
    (hpl : ((backTo pos (starEach (e :: es) X.env)).any (·.1) || (backToKw pos (keywordEach kws X.env)).any (·.1.isNone)) = false := by rfl) :
    PE X (.Call (.Name x p) (e :: es) kws pos) (tCallK sp gV E t tk) := ⟨fun pins s σ H Q I h => by
  refine wpAny_Call_Name_kw (ld_glob I hg hm ?_ hdb)
  refine PySem.W.callWith_KW (h₀ := X.base) I.ok.mod.kin hk hall (thn (ha.run pos pins s σ H _ I h) fun us s1 ⟨vs, H1, I1, r, q⟩ => ?_) hpl he
  refine thn (hkw.run pos pins s1 σ H1 _ I1 q) fun ws s2 ⟨zs, H2, I2, rz, q2⟩ => ⟨I2.kIn, ?_⟩
  rw [hks]
  have r2 := hb.rel r rz
  have hl : (g us ws).length = ps.length := r2.length.symm.trans (F.len _ _ _ _ q2)
  exact wpAny_call (out_fn F hr hgd hx I2 (hb.to s2 us ws I2.kIn hl) r2 q2)⟩
end
/-- a def of the text, by its body -/
theorem fn_ofG {CX : CXT} {P : Program} {w : World} {K : PySem.W.Frag} {mg : Str → Option Value} {base : Heap} {k : Nat} {f : Addr} {name qual : Str} {params : Arguments} {body : List Stmt} {scope : Scope} {dV kV doc pm cdv ct oc : Value} {an od : Option Addr}
    {osl : Array (Option Value)} {N ps : List Str} {sp : Sp} (lk : K.lookup f = some ⟨oc, od, .func (PySem.W.fnOf name qual params body scope dV kV doc pm an cdv ct), osl⟩) (hcd : PySem.W.codeIn K cdv qual = true) (S : FnScope N ps scope)
    (len : ∀ vs H Q E, sp vs H Q E → vs.length = ps.length)
    (hbody : ∀ (A : Around) (outer : List Env) (s : Shared) (H : Hp) (vs : List V) (Q : VK) (E : XK), Room k (A.deeper (envOfC qual scope s.heap.objs.size f cdv)) → A.guards = some [] → sp vs H Q E →
      ∃ t, PSs (cxOf CX P w K mg base N qual scope f cdv A outer s H E) body t ∧ t { nx := fun _ H' => Q .non H', rt := Q } (L2.start N vs) H) :
    FnG P w K mg base CX (k + 1) f (PySem.W.fnOf name qual params body scope dV kV doc pm an cdv ct) ps sp := by
  refine ⟨len, fun A outer s H args us vs Q E hr hgd e0 hb r hsp => ?_⟩
  have hl := len _ _ _ _ hsp
  have grow : ∀ b o, base.get? b = some o → s.heap.get? b = some o := fun b o e => (e0.bs b o e).1
  have KX : K.In s.heap := e0.mod.kin.keeps grow
  have lim : s.heap.NoLimit := e0.mod.nolimit.keeps grow
  refine codeAny_call_function hr.depth (KX _ _ lk) rfl S.co S.gen rfl (PySem.W.codeRec_of KX hcd) (hb _ _ _ _ ?_)
  refine wpAny_newFunctionEnv_cells S.kind (fun ⟨n, v⟩ hy => ?_) fun env he s1 x => ?_
  · exact (S.par n (List.of_mem_zip hy).1).imp id fun q => ⟨q, PySem.W.cellsFrom_some _ _ _ (.inl q)⟩
  subst he
  obtain ⟨t, ht, hq⟩ := hbody A outer s H vs Q E (hr.deeper _) hgd hsp
  have I : Inv (cxOf CX P w K mg base N qual scope f cdv A outer s H E) [] (L2.start N vs) H s1 := inv_start S hr.hd e0 hl r x
  refine ⟨lim.keeps x.toInCall.keep, codeAny_func (wpAny_mono (ht.run [] s1 (L2.start N vs) H _ I hq) (fun fl s' hs => ?_) fun e s' hs => hs)⟩
  cases fl with
  | ret u =>
    obtain ⟨v, σ', H', J, rv, q⟩ := hs
    exact ⟨v, H', J.os, J.bare, J.base, J.hok, rv, q⟩
  | next =>
    obtain ⟨σ', H', J, q⟩ := hs
    exact ⟨V.non, H', J.os, J.bare, J.base, J.hok, rfl, q⟩
  | brk =>
    obtain ⟨_, _, _, q⟩ := hs
    exact q.elim
  | cont =>
    obtain ⟨_, _, _, q⟩ := hs
    exact q.elim

/-! ## promises over data -/
abbrev DSp := List DV → List (Option DO) → (DV → List (Option DO) → Prop) → Prop
def spD (P : Program) (w : World) (K : PySem.W.Frag) (dsp : DSp) : Sp := fun vs H Q _ => ∃ (F : Hp) (α : List Addr) (ds : List DV) (μ : List (Option DO)) (R : DV → List (Option DO) → Prop),
  StAt P w K ⟨F, H, α⟩ ⟨ds.map some, μ⟩ (vs.map some) [] H F α ∧ vs.length = ds.length ∧ dsp ds μ R ∧ ∀ v d ρ σ μ' H', R d μ' → StOk P w K ⟨F, H, α⟩ ⟨ρ, μ'⟩ σ [(v, d)] H' → Q v H'
/-- a def of the text keeps its promise over data -/
structure DFn (P : Program) (w : World) (K : PySem.W.Frag) (mg : Str → Option Value) (base : Heap) (k : Nat) (f : Addr) (fd : FuncData) (ps : List Str) (dsp : DSp) : Prop where
  fn : FnG P w K mg base CX0 k f fd ps (spD P w K dsp)
theorem DFn.mono {P : Program} {w : World} {K : PySem.W.Frag} {mg : Str → Option Value} {base : Heap} {j k : Nat} {f : Addr} {fd : FuncData} {ps : List Str} {dsp : DSp} (F : DFn P w K mg base j f fd ps dsp) (h : j ≤ k) : DFn P w K mg base k f fd ps dsp := ⟨F.fn.mono h⟩
/-- a def's context, nothing raised -/
abbrev ctxD (P : Program) (w : World) (K : PySem.W.Frag) (mg : Str → Option Value) (base : Heap) (N : List Str) (qual : Str) (sc : Scope) (f : Addr) (cdv : Value) (A : Around) (outer : List Env) (s : Shared) (H : Hp) (E : XK) : Cx :=
  (cxOf CX0 P w K mg base N qual sc f cdv A outer s H E).nox
/-- THE RULE: the body's data reading at the arguments -/
theorem dfn_of {P : Program} {w : World} {K : PySem.W.Frag} {mg : Str → Option Value} {base : Heap} {x qual : Str} {st : Stmt} {f : Addr} {fd : FuncData} {N ps : List Str} {k : Nat} {dsp : DSp} (F : Fun K x qual st f fd) (S : FnScope N ps (defScope st)) (len : ∀ ds μ R, dsp ds μ R → ds.length = ps.length)
    (hbody : ∀ (cdv : Value) (A : Around) (outer : List Env) (s : Shared) (H : Hp) (E : XK), Room k (A.deeper (envOfC qual (defScope st) s.heap.objs.size f cdv)) → A.guards = some [] →
      ∃ dt, DSs (ctxD P w K mg base N qual (defScope st) f cdv A outer s H E) (defBody st) dt ∧ ∀ ds μ R, dsp ds μ R → dt { nx := fun S => R dN S.μ, rt := fun d S => R d S.μ } ⟨ds.map some ++ List.replicate (N.length - ds.length) none, μ⟩) : DFn P w K mg base (k + 1) f fd ps dsp := by
  obtain ⟨oc, od, kV, doc, pm, an, cdv, ct, osl, rfl, lk, hcd⟩ := F.ex
  have hlen : ∀ vs H Q E, spD P w K dsp vs H Q E → vs.length = ps.length := fun vs H Q E ⟨_, _, ds, μ, R, _, hl, h, _⟩ => hl.trans (len ds μ R h)
  refine ⟨fn_ofG lk hcd S hlen fun A outer s H vs Q E hr hgd hsp => ?_⟩
  obtain ⟨F0, α, ds, μ, R, h0, hl, hd, hq⟩ := hsp
  obtain ⟨dt, hdt, hgo⟩ := hbody cdv A outer s H E hr hgd
  obtain ⟨t, t1, t2⟩ := hdt.ex
  refine ⟨t, t1.nox, t2 ⟨F0, H, α⟩ _ (L2.start N vs) [] H _ _ ⟨F0, α, ?_⟩ (hgo ds μ R hd) ⟨fun S1 σ1 H1 q o => ?_, fun v d S1 σ1 H1 q o => ?_, fun _ _ _ q => q.elim, fun _ _ _ q => q.elim⟩⟩
  · unfold L2.start
    refine h0.slots (by rw [List.length_append, List.length_append, List.length_map, List.length_map, List.length_replicate, List.length_replicate, hl]) fun i d q => ?_
    by_cases c : i < ds.length
    · rw [List.getElem?_append_left (by rw [List.length_map]; exact c)] at q
      obtain ⟨v, g1, g2⟩ := h0.sl i d q
      exact ⟨v, by rw [List.getElem?_append_left (by rw [List.length_map, hl]; exact c)]; exact g1, g2⟩
    · rw [List.getElem?_append_right (by rw [List.length_map]; omega), List.getElem?_replicate] at q
      split at q <;> cases q
  · obtain ⟨F1, α1, o⟩ := o
    exact hq .non dN S1.ρ σ1 S1.μ H1 q (o.add vnon).ok
  · exact hq v d S1.ρ σ1 S1.μ H1 q o

/-! ## calls over data -/
def renD (ks : List Nat) : DV → Option DV
  | .cell k => if k ∈ ks then some (.cell (ks.idxOf k)) else none
  | d => some d
def renDs (ks : List Nat) : List DV → Option (List DV)
  | [] => some []
  | d :: r => match renD ks d, renDs ks r with
    | some d', some r' => some (d' :: r')
    | _, _ => none
/-- no cell within -/
def DV.bare : DV → Bool
  | .cell _ => false
  | _ => true
def DO.bare : DO → Bool
  | .lst ds => ds.all DV.bare
  | .dic kvs => kvs.all fun p => p.2.bare
  | .ins _ fs => fs.all fun p => p.2.bare
  | .ho _ => true
  | .lck _ kvs => kvs.all fun p => p.2.bare
  | .tdk kvs => kvs.all fun p => p.2.bare
def cellsOf (μ : List (Option DO)) : List Nat → List (Option DO)
  | [] => []
  | k :: ks => (match μ[k]? with | some (some o) => if o.bare = true then some o else none | _ => none) :: cellsOf μ ks
def backs (μ : List (Option DO)) : List Nat → List (Option DO) → List (Option DO)
  | k :: ks, μ' => backs (μ.set k (match μ'[0]? with | some (some o) => if o.bare = true then some o else none | _ => none)) ks (μ'.drop 1)
  | [], _ => μ
/-- ks: the cells that are handed over -/
def kCall (dsp : DSp) (R : DV → DSt → Prop) (ds : List DV) (S1 : DSt) (ks : List Nat) : Prop := match renDs ks ds with
  | none => False
  | some ds' => ks.Nodup ∧ (∀ k ∈ ks, k < S1.μ.length) ∧ dsp ds' (cellsOf S1.μ ks) fun d μ' => match d with
    | .cell j => if h : j < ks.length then R (.cell ks[j]) ⟨S1.ρ, backs S1.μ ks μ'⟩ else match μ'[j]? with
      | some (some o) => if o.bare = true then R (.cell S1.μ.length) ⟨S1.ρ, backs S1.μ ks μ' ++ [some o]⟩ else False
      | _ => False
    | d => R d ⟨S1.ρ, backs S1.μ ks μ'⟩
def dCall (dsp : DSp) (dvs : List DV) (da : DTA) : DTE := fun S R => da S fun ds S1 => ∃ ks, kCall dsp R (ds ++ dvs) S1 ks

def pickB (o : Option (Option DO)) : Option DO := match o with
  | some (some o) => if o.bare = true then some o else none
  | _ => none
theorem pickB_eq {o : Option (Option DO)} {u : DO} (h : pickB o = some u) : o = some (some u) ∧ u.bare = true := by
  match o, h with
  | some (some v), h =>
    have h' : (if v.bare = true then some v else none) = some u := h
    split at h'
    · cases h'; exact ⟨rfl, by assumption⟩
    · cases h'
theorem cellsOf_get (μ : List (Option DO)) : ∀ (ks : List Nat) (j : Nat), (cellsOf μ ks)[j]? = (ks[j]?).map fun k => pickB μ[k]?
  | [], j => by simp [cellsOf]
  | k :: ks, 0 => rfl
  | k :: ks, j + 1 => by
    show (cellsOf μ ks)[j]? = _
    rw [cellsOf_get μ ks j]
    rfl
theorem cellsOf_len (μ : List (Option DO)) : ∀ ks : List Nat, (cellsOf μ ks).length = ks.length
  | [] => rfl
  | k :: ks => congrArg Nat.succ (cellsOf_len μ ks)
theorem backs_len (ks : List Nat) : ∀ (μ μ' : List (Option DO)), (backs μ ks μ').length = μ.length := by
  induction ks with
  | nil => intro μ μ'; rfl
  | cons k ks ih => intro μ μ'; show (backs _ ks _).length = _; rw [ih, List.length_set]
theorem idx_ne {k c : Nat} (ks : List Nat) (h : ¬ k = c) : (c :: ks).idxOf k = ks.idxOf k + 1 := by
  rw [List.idxOf_cons, show (c == k) = false from beq_eq_false_iff_ne.mpr fun e => h e.symm]; rfl
theorem get_idx {k : Nat} : ∀ {ks : List Nat}, k ∈ ks → ks[ks.idxOf k]? = some k
  | c :: ks, h => by
    by_cases e : k = c
    · subst e; rw [List.idxOf_cons_self]; rfl
    · rw [idx_ne ks e]
      exact get_idx ((List.mem_cons.mp h).resolve_left e)
theorem backs_get (ks : List Nat) : ∀ (μ μ' : List (Option DO)) (k : Nat), ks.Nodup → (∀ k ∈ ks, k < μ.length) →
    (backs μ ks μ')[k]? = if k ∈ ks then some (pickB μ'[ks.idxOf k]?) else μ[k]? := by
  induction ks with
  | nil => intro μ μ' k _ _; simp [backs]
  | cons c ks ih =>
    intro μ μ' k nd hl
    obtain ⟨n1, n2⟩ := List.nodup_cons.mp nd
    show (backs (μ.set c (pickB μ'[0]?)) ks (μ'.drop 1))[k]? = _
    rw [ih _ _ _ n2 (fun z hz => by rw [List.length_set]; exact hl z (List.mem_cons_of_mem _ hz))]
    by_cases hk : k = c
    · subst hk
      rw [if_neg n1, if_pos List.mem_cons_self, List.getElem?_set_self (hl k List.mem_cons_self), List.idxOf_cons_self]
    · by_cases hm : k ∈ ks
      · rw [if_pos hm, if_pos (List.mem_cons_of_mem _ hm), List.getElem?_drop, idx_ne ks hk, Nat.add_comm]
      · rw [if_neg hm, if_neg (fun z => (List.mem_cons.mp z).elim hk hm), List.getElem?_set_ne (fun e => hk e.symm)]
section
variable {P : Program} {w : World} {K : PySem.W.Frag} {B : Bs} {S S' : DSt} {σ : L2.St} {ts : List (V × DV)} {H F F' : Hp} {α β : List Addr} {v : V} {d : DV}
theorem VOk.bare (h : VOk P w K F α v d) (hb : d.bare = true) : VOk P w K F β v d := by
  cases d with
  | cell k => cases hb
  | imm d => exact h
  | raw u => exact h
  | obj φ => exact h
  | scr ns => exact h
theorem paired_all {V1 D1 : Type} {r r' : V1 → D1 → Prop} {q : D1 → Bool} (h : ∀ a b, q b = true → r a b → r' a b) : ∀ {xs : List V1} {ds : List D1}, Paired r xs ds → ds.all q = true → Paired r' xs ds
  | _, _, .nil, _ => .nil
  | _, _, .cons z t, e => by
    rw [List.all_cons, Bool.and_eq_true] at e
    exact .cons (h _ _ e.1 z) (paired_all h t e.2)
theorem COk.bare {a : Addr} {o : DO} (h : COk P w K F α H a o) (hb : o.bare = true) : COk P w K F β H a o := by
  cases o with
  | lst ds =>
    obtain ⟨xs, h1, h2⟩ := h
    exact ⟨xs, h1, paired_all (fun _ _ e z => z.bare e) h2 hb⟩
  | dic kvs =>
    obtain ⟨xs, h1, h2⟩ := h
    exact ⟨xs, h1, paired_all (q := fun (p : Leaf × DV) => p.2.bare) (fun _ _ e z => ⟨z.1, z.2.bare e⟩) h2 hb⟩
  | ins C fs =>
    obtain ⟨dx, xs, h1, h2⟩ := h
    exact ⟨dx, xs, h1, paired_all (q := fun (p : Str × DV) => p.2.bare) (fun _ _ e z => ⟨z.1, z.2.bare e⟩) h2 hb⟩
  | ho φ => exact h
  | lck ob kvs =>
    obtain ⟨xs, h1, h2⟩ := h
    exact ⟨xs, h1, paired_all (q := fun (p : Leaf × DV) => p.2.bare) (fun _ _ e z => ⟨z.1, z.2.bare e⟩) h2 hb⟩
  | tdk kvs =>
    obtain ⟨xs, h1, h2⟩ := h
    exact ⟨xs, h1, paired_all (q := fun (p : List Int × DV) => p.2.bare) (fun _ _ e z => ⟨z.1, z.2.1, z.2.2.bare e⟩) h2 hb⟩
/-- an object that stands becomes a cell -/
theorem StAt.adopt {a : Addr} {o : DO} (h : StAt P w K B S σ ts H F α) (ha : a ∉ α) (hF : F a = none) (hH : H a ≠ none) (hB : B.H a = none) (ho : COk P w K F (α ++ [a]) H a o) : StAt P w K B (S.new o) σ ts H F (α ++ [a]) := by
  have hbl : B.ps.length ≤ α.length := by
    have := congrArg List.length h.bp
    rw [List.length_take] at this
    omega
  refine ⟨h.fh, h.bh, h.bf, fun b v q1 q2 q3 => ?_, ?_, fun b q => ?_, ?_, ?_, fun b q => ?_, h.len, fun i d q => ?_, fun q hq => (h.tm q hq).up (Ex.refl _), fun k v q => ?_⟩
  · obtain ⟨h1, h2, h3⟩ := h.bc b v q1 q2 q3
    refine ⟨h1, h2, fun z => ?_⟩
    rcases List.mem_append.mp z with z | z
    · exact h3 z
    · rw [List.mem_singleton.mp z, hB] at q1; cases q1
  · rw [List.take_append_of_le_length hbl]; exact h.bp
  · rcases List.mem_append.mp q with q | q
    · exact h.bn b q
    · rw [List.mem_singleton.mp q]; exact .inr hB
  · rw [List.nodup_append]
    exact ⟨h.nd, by simp, fun b q c r e => ha (by rw [← List.mem_singleton.mp r, ← e]; exact q)⟩
  · show (α ++ [a]).length = (S.μ ++ [some o]).length
    rw [List.length_append, List.length_append, h.al, List.length_singleton, List.length_singleton]
  · rcases List.mem_append.mp q with q | q
    · exact h.an b q
    · rw [List.mem_singleton.mp q]; exact hH
  · obtain ⟨v, h1, h2⟩ := h.sl i d q
    exact ⟨v, h1, h2.up (Ex.refl _)⟩
  · have q' : (S.μ ++ [some o])[k]? = some (some v) := q
    by_cases hk : k < S.μ.length
    · rw [List.getElem?_append_left hk] at q'
      obtain ⟨b, h1, h2, h3⟩ := h.ce k v q'
      exact ⟨b, by rw [List.getElem?_append_left (by rw [h.al]; exact hk)]; exact h1, h2, h3.up (Ex.refl _) rfl⟩
    · have hk2 : k = S.μ.length := by
        have := (List.getElem?_eq_some_iff.mp q').1
        rw [List.length_append, List.length_singleton] at this
        omega
      subst hk2
      rw [List.getElem?_append_right (Nat.le_refl _), Nat.sub_self] at q'
      cases q'
      exact ⟨a, by rw [← h.al, List.getElem?_append_right (Nat.le_refl _), Nat.sub_self]; rfl, hF, ho⟩
theorem snd_lcC {wi : TI} {di : DTI} {g : TG} {dg : DTG} {js : List Nat} {tt : TT} {dt : DTT} {te : TE} {de : DTE} {vs : List Nat} (hi : SndI P w K wi di) (hg : SndG P w K js g dg) (ht : SndT P w K tt dt) (he : SndE P w K te de) (hj : ∀ j ∈ js, j ∈ vs) :
    SndE P w K (tLc wi g tt te vs) (dLcC di dg dt de vs) := fun B S σ ts H R Q h hd k =>
  snd_lcP hi hg ht he hj B S σ ts H _ Q h hd fun D acc ps S' H' F α r o h1 h2 h3 h4 rr => k _ _ _ H' r
    ((o.adopt (o := .lst (ps.map DV.imm)) h3 h2 (by rw [h1]; exact fun z => by cases z) h4 ⟨acc, h1, paired_imm rr⟩).add (d := .cell S'.μ.length) ⟨D, by rw [← o.al, List.getElem?_append_right (Nat.le_refl _), Nat.sub_self]; rfl, rfl⟩).ok
/-- the addresses that are handed over -/
def adrs (α : List Addr) (ks : List Nat) : List Addr := ks.map fun k => α.getD k 0
theorem adrs_get {ks : List Nat} (hk : ∀ k ∈ ks, k < α.length) {j k : Nat} (h : ks[j]? = some k) : (adrs α ks)[j]? = α[k]? := by
  unfold adrs
  rw [List.getElem?_map, h, List.getElem?_eq_getElem (hk k (List.mem_of_getElem? h))]
  simp [List.getD_eq_getElem?_getD, List.getElem?_eq_getElem (hk k (List.mem_of_getElem? h))]
theorem mem_adrs {ks : List Nat} (hk : ∀ k ∈ ks, k < α.length) {a : Addr} (h : a ∈ adrs α ks) : ∃ k ∈ ks, α[k]? = some a := by
  unfold adrs at h
  obtain ⟨k, h1, h2⟩ := List.mem_map.mp h
  refine ⟨k, h1, ?_⟩
  rw [← h2, List.getElem?_eq_getElem (hk k h1)]
  simp [List.getD_eq_getElem?_getD, List.getElem?_eq_getElem (hk k h1)]
theorem nd_at (nd : α.Nodup) {i j : Nat} {a : Addr} (h1 : α[i]? = some a) (h2 : α[j]? = some a) : i = j := by
  have i1 := List.getElem?_eq_some_iff.mp h1
  have i2 := List.getElem?_eq_some_iff.mp h2
  exact (List.getElem_inj nd).mp (i1.2.trans i2.2.symm)
theorem adrs_nd (nd : α.Nodup) {ks : List Nat} (nk : ks.Nodup) (hk : ∀ k ∈ ks, k < α.length) : (adrs α ks).Nodup := by
  unfold adrs
  induction ks with
  | nil => exact List.nodup_nil
  | cons k ks ih =>
    obtain ⟨n1, n2⟩ := List.nodup_cons.mp nk
    have hk' : ∀ z ∈ ks, z < α.length := fun z hz => hk z (List.mem_cons_of_mem _ hz)
    refine List.nodup_cons.mpr ⟨fun q => ?_, ih n2 hk'⟩
    obtain ⟨j, j1, j2⟩ := mem_adrs hk' q
    have e : α[k]? = some (α.getD k 0) := by
      rw [List.getElem?_eq_getElem (hk k List.mem_cons_self)]
      simp [List.getD_eq_getElem?_getD, List.getElem?_eq_getElem (hk k List.mem_cons_self)]
    have := nd_at nd e j2
    exact n1 (this ▸ j1)
theorem ren_ok {ks : List Nat} (hk : ∀ k ∈ ks, k < α.length) {d' : DV} (h : VOk P w K F α v d) (e : renD ks d = some d') : VOk P w K F (adrs α ks) v d' := by
  cases d with
  | cell k =>
    have e' : (if k ∈ ks then some (DV.cell (ks.idxOf k)) else none) = some d' := e
    split at e'
    · rename_i hm
      cases e'
      obtain ⟨a, h1, h2⟩ := h
      refine ⟨a, ?_, h2⟩
      rw [adrs_get hk (k := k) (get_idx hm)]
      exact h1
    · cases e'
  | imm d => cases e; exact h
  | raw u => cases e; exact h
  | obj φ => cases e; exact h
  | scr ns => cases e; exact h
theorem rens_ok {ks : List Nat} (hk : ∀ k ∈ ks, k < α.length) : ∀ {vs : List V} {ds ds' : List DV}, Paired (VOk P w K F α) vs ds → renDs ks ds = some ds' → Paired (VOk P w K F (adrs α ks)) vs ds'
  | _, _, _, .nil, e => by cases e; exact .nil
  | _, d :: r, ds', .cons h t, e => by
    have e' : (match renD ks d, renDs ks r with | some d', some r' => some (d' :: r') | _, _ => none) = some ds' := e
    cases e1 : renD ks d with
    | none => rw [e1] at e'; cases e'
    | some d1 =>
      cases e2 : renDs ks r with
      | none => rw [e1, e2] at e'; cases e'
      | some r1 =>
        rw [e1, e2] at e'
        cases e'
        exact .cons (ren_ok hk h e1) (rens_ok hk t e2)
theorem StAt.callee {ks : List Nat} {vs : List V} {ds ds' : List DV} (h : StAt P w K B S σ ts H F α) (hv : Paired (VOk P w K F α) vs ds) (nk : ks.Nodup) (hk : ∀ k ∈ ks, k < S.μ.length) (e : renDs ks ds = some ds') :
    StAt P w K ⟨F, H, adrs α ks⟩ ⟨ds'.map some, cellsOf S.μ ks⟩ (vs.map some) [] H F (adrs α ks) := by
  have hk' : ∀ k ∈ ks, k < α.length := fun k z => by rw [h.al]; exact hk k z
  have hp := rens_ok hk' hv e
  refine ⟨h.fh, h.fh, Ex.refl _, fun a o q1 q2 q3 => ⟨q1, q2, q3⟩, List.take_length, fun a q => .inl q, adrs_nd h.nd nk hk', ?_, fun a q => ?_, ?_, fun i d q => ?_, fun p hp => (by cases hp), fun j o q => ?_⟩
  · rw [cellsOf_len]; unfold adrs; rw [List.length_map]
  · obtain ⟨k, _, k2⟩ := mem_adrs hk' q
    exact h.an a (List.mem_of_getElem? k2)
  · rw [List.length_map, List.length_map]; exact (Paired.length hp).symm
  · rw [List.getElem?_map] at q
    cases e2 : ds'[i]? with
    | none => rw [e2] at q; cases q
    | some d2 =>
      rw [e2] at q
      cases q
      have : ∀ {xs : List V} {es : List DV} {i : Nat}, Paired (VOk P w K F (adrs α ks)) xs es → es[i]? = some d → ∃ v, xs[i]? = some v ∧ VOk P w K F (adrs α ks) v d := by
        intro xs es i p
        induction p generalizing i with
        | nil => intro z; simp at z
        | cons z t ih =>
          intro y
          cases i with
          | zero => simp at y; subst y; exact ⟨_, rfl, z⟩
          | succ i => exact ih (by simpa using y)
      obtain ⟨v, g1, g2⟩ := this hp e2
      exact ⟨v, by rw [List.getElem?_map, g1]; rfl, g2⟩
  · have q' : (cellsOf S.μ ks)[j]? = some (some o) := q
    rw [cellsOf_get] at q'
    cases e2 : ks[j]? with
    | none => rw [e2] at q'; cases q'
    | some k =>
      rw [e2] at q'
      obtain ⟨e3, hb⟩ := pickB_eq (Option.some.inj q')
      obtain ⟨a, g1, g2, g3⟩ := h.ce k o e3
      exact ⟨a, by rw [adrs_get hk' e2]; exact g1, g2, g3.bare hb⟩
theorem StAt.back {ks : List Nat} {ρ' : List (Option DV)} {μ' : List (Option DO)} {σ' : L2.St} {us : List (V × DV)} {H' : Hp} (h : StAt P w K B S σ ts H F α) (nk : ks.Nodup) (hk : ∀ k ∈ ks, k < S.μ.length)
    (h' : StAt P w K ⟨F, H, adrs α ks⟩ ⟨ρ', μ'⟩ σ' us H' F' β) : StAt P w K B ⟨S.ρ, backs S.μ ks μ'⟩ σ ts H' F' α := by
  have hk' : ∀ k ∈ ks, k < α.length := fun k z => by rw [h.al]; exact hk k z
  have pre : β.take (adrs α ks).length = adrs α ks := h'.bp
  have inβ : ∀ a, a ∈ adrs α ks → a ∈ β := fun a z => List.mem_of_mem_take (by rw [pre]; exact z)
  refine ⟨h'.fh, h.bh, h.bf.trans h'.bf, fun a o q1 q2 q3 => ?_, h.bp, h.bn, h.nd, ?_, fun a q => ?_, h.len, fun i d q => ?_, fun p hp => (h.tm p hp).up0 h'.bf, fun k o q => ?_⟩
  · obtain ⟨h1, h2, h3⟩ := h.bc a o q1 q2 q3
    obtain ⟨g1, g2, _⟩ := h'.bc a o h1 h2 fun z => by
      obtain ⟨k, _, k2⟩ := mem_adrs hk' z
      exact h3 (List.mem_of_getElem? k2)
    exact ⟨g1, g2, h3⟩
  · show α.length = (backs S.μ ks μ').length
    rw [backs_len]; exact h.al
  · by_cases c : a ∈ adrs α ks
    · exact h'.an a (inβ a c)
    · cases e : H a with
      | none => exact absurd e (h.an a q)
      | some o =>
        cases e2 : F a with
        | none =>
          have := (h'.bc a o e e2 c).1
          rw [this]; exact fun z => by cases z
        | some u =>
          have := h'.fh a u (h'.bf a u e2)
          rw [this]; exact fun z => by cases z
  · obtain ⟨v, g1, g2⟩ := h.sl i d q
    exact ⟨v, g1, g2.up0 h'.bf⟩
  · have q' : (backs S.μ ks μ')[k]? = some (some o) := q
    rw [backs_get ks S.μ μ' k nk hk] at q'
    split at q'
    · rename_i hm
      obtain ⟨e3, hb⟩ := pickB_eq (Option.some.inj q')
      obtain ⟨a, g1, g2, g3⟩ := h'.ce _ o e3
      have hj : ks.idxOf k < ks.length := List.idxOf_lt_length_iff.mpr hm
      have e5 : (adrs α ks)[ks.idxOf k]? = α[k]? := adrs_get hk' (get_idx hm)
      have e4 : α[k]? = some a := by
        rw [← e5, ← pre, List.getElem?_take_of_lt (by unfold adrs; rw [List.length_map]; exact hj)]
        exact g1
      exact ⟨a, e4, g2, g3.bare hb⟩
    · rename_i hm
      obtain ⟨a, g1, g2, g3⟩ := h.ce k o q'
      have na : a ∉ adrs α ks := fun z => by
        obtain ⟨j, j1, j2⟩ := mem_adrs hk' z
        exact hm (nd_at h.nd g1 j2 ▸ j1)
      have hH : ∃ u, H a = some u := by
        cases e : H a with
        | none => exact absurd e (h.an a (List.mem_of_getElem? g1))
        | some u => exact ⟨u, rfl⟩
      obtain ⟨u, hu⟩ := hH
      obtain ⟨k1, k2, _⟩ := h'.bc a u hu g2 na
      exact ⟨a, g1, k2, g3.up0 h'.bf (by rw [hu]; exact k1)⟩
theorem snd_call {ta : TA} {da : DTA} {dsp : DSp} {dvs : List V} {dds : List DV} {E : XK} (ha : SndA P w K ta da) (hdv : ∀ (F : Hp) (α : List Addr), Paired (VOk P w K F α) dvs dds) :
    SndE P w K (tCall (spD P w K dsp) dvs E ta) (dCall dsp dds da) := fun B S σ ts H R Q h hd k =>
  ha B S σ ts H _ _ h hd fun vs ds S1 H1 hl q o => by
    obtain ⟨ks, q⟩ := q
    unfold kCall at q
    cases e : renDs ks (ds ++ dds) with
    | none => rw [e] at q; exact q.elim
    | some ds' =>
      rw [e] at q
      obtain ⟨nk, hk, q⟩ := q
      obtain ⟨F, α, o⟩ := o
      have hp : Paired (VOk P w K F α) (vs ++ dvs) (ds ++ dds) := Paired.app' (o.args hl) (hdv F α)
      have o' : StAt P w K B S1 σ ts H1 F α := o.sub memA
      have oc := o'.callee hp nk hk e
      refine ⟨F, adrs α ks, ds', cellsOf S1.μ ks, _, oc, ?_, q, fun v d ρ σ' μ' H' r z => ?_⟩
      · have := oc.len
        rw [List.length_map, List.length_map] at this
        exact this.symm
      · obtain ⟨F', β, z⟩ := z
        have ob := o'.back nk hk z
        have hk' : ∀ k ∈ ks, k < α.length := fun k y => by rw [o'.al]; exact hk k y
        have pre : β.take (adrs α ks).length = adrs α ks := z.bp
        have al : (adrs α ks).length = ks.length := by unfold adrs; rw [List.length_map]
        have fin : ∀ d, d.bare = true → VOk P w K F' β v d → R d ⟨S1.ρ, backs S1.μ ks μ'⟩ → Q v H' := fun d hb hv r => k v d _ H' r (ob.add (hv.bare hb)).ok
        cases d with
        | cell j =>
          have r' : if h : j < ks.length then R (.cell ks[j]) ⟨S1.ρ, backs S1.μ ks μ'⟩ else match μ'[j]? with
            | some (some o) => if o.bare = true then R (.cell S1.μ.length) ⟨S1.ρ, backs S1.μ ks μ' ++ [some o]⟩ else False
            | _ => False := r
          obtain ⟨a, a1, a2⟩ := z.top
          by_cases c : j < ks.length
          · rw [dif_pos c] at r'
            refine k v _ _ H' r' (ob.add (d := .cell ks[j]) ⟨a, ?_, a2⟩).ok
            have e1 : ks[j]? = some ks[j] := List.getElem?_eq_getElem c
            rw [← adrs_get hk' e1, ← pre, List.getElem?_take_of_lt (by rw [al]; exact c)]
            exact a1
          · rw [dif_neg c] at r'
            split at r'
            · rename_i o1 e1
              split at r'
              · rename_i hb
                obtain ⟨a', b1, b2, b3⟩ := z.ce j o1 e1
                cases a1.symm.trans b1
                have hn : H1 a = none := by
                  rcases z.bn a (List.mem_of_getElem? a1) with y | y
                  · exfalso
                    obtain ⟨i, hi, ei⟩ := List.mem_iff_getElem.mp (show a ∈ adrs α ks from y)
                    have h3 : β[i]? = some a := by
                      have : (β.take (adrs α ks).length)[i]? = some a := by rw [pre, List.getElem?_eq_getElem hi, ei]
                      rwa [List.getElem?_take_of_lt hi] at this
                    have := nd_at z.nd h3 a1
                    rw [al] at hi
                    omega
                  · exact y
                have na : a ∉ α := fun y => o'.an a y hn
                refine k v _ _ H' r' (((ob.adopt na b2 (z.an a (List.mem_of_getElem? a1)) (o'.freshB hn) (b3.bare hb)).add (d := .cell S1.μ.length) ⟨a, ?_, a2⟩)).ok
                rw [← o'.al, List.getElem?_append_right (Nat.le_refl _), Nat.sub_self]; rfl
              · exact r'.elim
            · exact r'.elim
        | imm d => exact fin _ rfl z.top r
        | raw u => exact fin _ rfl z.top r
        | obj φ => exact fin _ rfl z.top r
        | scr ns => exact fin _ rfl z.top r
end
section
variable {X : Cx} {k : Nat} {f : Addr} {fd : FuncData} {ps : List Str} {dsp : DSp} {ds : List Value} {dvs : List V} {dds : List DV} {x : Str} {p pos : Pos} {e : Expr} {es : List Expr} {da : DTA}
theorem de_call (F : DFn X.prog X.w X.K X.mg X.base k f fd ps dsp) (hr : Room k X.A) (hgd : X.A.guards = some []) (hg : Gl X x) (hm : X.mg x = some (.ref f)) (hk : PySem.W.keepIn X.K (.ref f) = true) (hb : Binds X.K fd ps ds) (hd : Vals dvs ds) (hdv : ∀ (F : Hp) (α : List Addr), Paired (VOk X.prog X.w X.K F α) dvs dds)
    (ha : DA X (e :: es) da) (hdb : (x == ("__debug__" : Str)) = false := by decide) (he : starEach (e :: es) X.env = (false, eval e X.env) :: starEach es X.env := by rfl) (hpl : (backTo pos (starEach es X.env)).any (·.1) = false := by rfl) :
    DE X (.Call (.Name x p) (e :: es) [] pos) (dCall dsp dds da) := by
  obtain ⟨t, a1, a2⟩ := ha.ex
  exact ⟨_, pe_callG (E := fun _ _ _ => False) F.fn hr hgd hg hm hk hb hd pass0 a1 hdb he hpl, snd_call a2 hdv⟩
theorem de_call0 (F : DFn X.prog X.w X.K X.mg X.base k f fd ps dsp) (hr : Room k X.A) (hgd : X.A.guards = some []) (hg : Gl X x) (hm : X.mg x = some (.ref f)) (hk : PySem.W.keepIn X.K (.ref f) = true) (hb : Binds X.K fd ps ds) (hd : Vals dvs ds) (hdv : ∀ (F : Hp) (α : List Addr), Paired (VOk X.prog X.w X.K F α) dvs dds)
    (hdb : (x == ("__debug__" : Str)) = false := by decide) : DE X (.Call (.Name x p) [] [] pos) (dCall dsp dds dNil) :=
  ⟨_, pe_call0G (E := fun _ _ _ => False) F.fn hr hgd hg hm hk hb hd pass0 hdb, snd_call snd_nil hdv⟩
end
end DL

set_option Elab.async false
set_option linter.all false
set_option maxRecDepth 100000
set_option autoImplicit false
set_option maxHeartbeats 2000000
namespace DL
open PySem PySem.Spec L2

/-! ## comprehensions -/
structure DTs (X : Cx) (ifs : List Expr) (dt : DTT) : Prop where
  ex : ∃ tt, PTs X ifs tt ∧ SndT X.prog X.w X.K tt dt
def dYes : DTT := fun S R => R true S
/-! the weakest readings that carry a data reading -/
section
variable (P : Program) (w : World) (K : PySem.W.Frag)
def canE (de : DTE) : TE := fun σ H Q => ∃ (B : Bs) (S : DSt) (ts : List (V × DV)) (R : DV → DSt → Prop), StOk P w K B S σ ts H ∧ de S R ∧ ∀ v d S' H', R d S' → StOk P w K B S' σ ((v, d) :: ts) H' → Q v H'
def canT (dt : DTT) : TT := fun σ H Q => ∃ (B : Bs) (S : DSt) (ts : List (V × DV)) (R : Bool → DSt → Prop), StOk P w K B S σ ts H ∧ dt S R ∧ ∀ b S' H', R b S' → StOk P w K B S' σ ts H' → Q b H'
def canG (js : List Nat) (dg : DTG) : TG := fun v σ H Q => ∃ (B : Bs) (S : DSt) (ts : List (V × DV)) (y : DY) (R : DSt → Prop), StY P w K B S σ ts H v y ∧ dg y S R ∧
  ∀ S' σ' H', R S' → S'.μ = S.μ → (∀ vs : List Nat, (∀ j ∈ js, j ∈ vs) → wipe σ' vs = wipe σ vs) → StOk P w K B S' σ' ts H' → Q σ' H'
end
section
variable {P : Program} {w : World} {K : PySem.W.Frag}
theorem snd_canE (de : DTE) : SndE P w K (canE P w K de) de := fun B S σ ts H R Q h hd k => ⟨B, S, ts, R, h, hd, k⟩
theorem snd_canT (dt : DTT) : SndT P w K (canT P w K dt) dt := fun B S σ ts H R Q h hd k => ⟨B, S, ts, R, h, hd, k⟩
theorem snd_canG (js : List Nat) (dg : DTG) : SndG P w K js (canG P w K js dg) dg := fun B S σ ts H v y R Q h hd k => ⟨B, S, ts, y, R, h, hd, k⟩
end
section
variable {X : Cx} {e : Expr} {es : List Expr} {de : DTE} {dt : DTT} {js : List Nat} {dg : DTG}
theorem DE.can (h : DE X e de) : PE X e (canE X.prog X.w X.K de) := by
  obtain ⟨t, a1, a2⟩ := h.ex
  exact ⟨fun pins s σ H Q I ⟨B, S, ts, R, o, hd, k⟩ => a1.run pins s σ H Q I (a2 B S σ ts H R Q o hd k)⟩
theorem DTs.can (h : DTs X es dt) : PTs X es (canT X.prog X.w X.K dt) := by
  obtain ⟨t, a1, a2⟩ := h.ex
  exact ⟨fun pins s σ H Q I ⟨B, S, ts, R, o, hd, k⟩ => a1.run pins s σ H Q I (a2 B S σ ts H R Q o hd k)⟩
theorem DG.can (h : DG X e js dg) : PG X e (canG X.prog X.w X.K js dg) := by
  obtain ⟨t, a1, a2⟩ := h.ex
  exact ⟨fun pins s σ H v u Q I r ⟨B, S, ts, y, R, o, hd, k⟩ => a1.run pins s σ H v u Q I r (a2 B S σ ts H v y R Q o hd k)⟩
theorem dts_nil : DTs X [] dYes := ⟨_, pts_nil, fun B S σ ts H R Q h hd k => k true S H hd h⟩
theorem dts_one (h : DT X e dt) : DTs X [e] dt := by
  obtain ⟨t, a1, a2⟩ := h.ex
  exact ⟨_, pts_one a1, a2⟩
/-- the context of a comprehension's block -/
abbrev blkX (X : Cx) (scope : Scope) (s : Shared) (H : Hp) (C : Addr) (cl : List (Str × Addr)) (fp : List Addr) : Cx := X.blk s H scope (compEnvC scope cl C X.env) fp
/-- [elt for tg in iter if ..] -/
theorem de_lc {own : List (Str × Nat)} {elt tg iter : Expr} {ifs : List Expr} {scope : Scope} {pos : Pos} {di : DTI} (hc : X.calm = true) (hN : X.N.Nodup) (hi : DI X tg iter di) (ok : BlkOk X.N X.env.scope scope own)
    (blk : ∀ (s : Shared) (H : Hp) (C : Addr) (cl : List (Str × Addr)) (fp : List Addr), DG (blkX X scope s H C cl fp) tg js dg ∧ DTs (blkX X scope s H C cl fp) ifs dt ∧ DE (blkX X scope s H C cl fp) elt de)
    (hj : ∀ j ∈ js, j ∈ own.map (·.2)) (hs : ∀ x, foldedSetIterable iter X.env x = pure x := by intro _; rfl) : DE X (.ListComp elt [⟨tg, iter, ifs, 0⟩] scope pos) (dLc di dg dt de (own.map (·.2))) := by
  obtain ⟨wi, a1, a2⟩ := hi.ex
  have b := blk
  exact ⟨_, pe_lc (g := canG X.prog X.w X.K js dg) (tt := canT X.prog X.w X.K dt) (te := canE X.prog X.w X.K de) hc hN a1 ok (fun s H C cl fp => (b s H C cl fp).1.can) (fun s H C cl fp => (b s H C cl fp).2.1.can) (fun s H C cl fp => (b s H C cl fp).2.2.can) hs, snd_lc a2 (snd_canG js dg) (snd_canT dt) (snd_canE de) hj⟩
/-- y = [..] -/
theorem ds_setLc {i : Nat} {y : Str} {py : Pos} {own : List (Str × Nat)} {elt tg iter : Expr} {ifs : List Expr} {scope : Scope} {pos spos : Pos} {di : DTI} (hc : X.calm = true) (hN : X.N.Nodup) (hy : X.N[i]? = some y) (hyl : X.env.scope.names.lookup y = some .local)
    (hsw : swapsWith (.ListComp elt [⟨tg, iter, ifs, 0⟩] scope pos) (some (.Name y py)) spos.line X.env = pure true) (hi : DI X tg iter di) (ok : BlkOk X.N X.env.scope scope own)
    (blk : ∀ (s : Shared) (H : Hp) (C : Addr) (cl : List (Str × Addr)) (fp : List Addr), DG (blkX X scope s H C cl fp) tg js dg ∧ DTs (blkX X scope s H C cl fp) ifs dt ∧ DE (blkX X scope s H C cl fp) elt de)
    (hj : ∀ j ∈ js, j ∈ own.map (·.2)) (hs : ∀ x, foldedSetIterable iter X.env x = pure x := by intro _; rfl) : DS X (.Assign [.Name y py] (.ListComp elt [⟨tg, iter, ifs, 0⟩] scope pos) spos) (dAsg (dLc di dg dt de (own.map (·.2))) (dgName i)) := by
  obtain ⟨wi, a1, a2⟩ := hi.ex
  have b := blk
  refine ⟨_, ps_setLc (g := canG X.prog X.w X.K js dg) (tt := canT X.prog X.w X.K dt) (te := canE X.prog X.w X.K de) hc hN hy hyl hsw a1 ok (fun s H C cl fp => (b s H C cl fp).1.can) (fun s H C cl fp => (b s H C cl fp).2.1.can) (fun s H C cl fp => (b s H C cl fp).2.2.can) hs, fun B S σ ts H D G h hd l => ?_⟩
  refine snd_lc a2 (snd_canG js dg) (snd_canT dt) (snd_canE de) hj B S σ ts H _ _ h hd fun v d S1 H1 q o => ?_
  obtain ⟨F, α, o⟩ := o
  exact l.nx _ _ H1 q ((o.setSlot o.top).sub mem1).ok
/-- .. that becomes a cell -/
theorem de_lcC {own : List (Str × Nat)} {elt tg iter : Expr} {ifs : List Expr} {scope : Scope} {pos : Pos} {di : DTI} (hc : X.calm = true) (hN : X.N.Nodup) (hi : DI X tg iter di) (ok : BlkOk X.N X.env.scope scope own)
    (blk : ∀ (s : Shared) (H : Hp) (C : Addr) (cl : List (Str × Addr)) (fp : List Addr), DG (blkX X scope s H C cl fp) tg js dg ∧ DTs (blkX X scope s H C cl fp) ifs dt ∧ DE (blkX X scope s H C cl fp) elt de)
    (hj : ∀ j ∈ js, j ∈ own.map (·.2)) (hs : ∀ x, foldedSetIterable iter X.env x = pure x := by intro _; rfl) : DE X (.ListComp elt [⟨tg, iter, ifs, 0⟩] scope pos) (dLcC di dg dt de (own.map (·.2))) := by
  obtain ⟨wi, a1, a2⟩ := hi.ex
  have b := blk
  exact ⟨_, pe_lc (g := canG X.prog X.w X.K js dg) (tt := canT X.prog X.w X.K dt) (te := canE X.prog X.w X.K de) hc hN a1 ok (fun s H C cl fp => (b s H C cl fp).1.can) (fun s H C cl fp => (b s H C cl fp).2.1.can) (fun s H C cl fp => (b s H C cl fp).2.2.can) hs, snd_lcC a2 (snd_canG js dg) (snd_canT dt) (snd_canE de) hj⟩
theorem ds_setLcC {i : Nat} {y : Str} {py : Pos} {own : List (Str × Nat)} {elt tg iter : Expr} {ifs : List Expr} {scope : Scope} {pos spos : Pos} {di : DTI} (hc : X.calm = true) (hN : X.N.Nodup) (hy : X.N[i]? = some y) (hyl : X.env.scope.names.lookup y = some .local)
    (hsw : swapsWith (.ListComp elt [⟨tg, iter, ifs, 0⟩] scope pos) (some (.Name y py)) spos.line X.env = pure true) (hi : DI X tg iter di) (ok : BlkOk X.N X.env.scope scope own)
    (blk : ∀ (s : Shared) (H : Hp) (C : Addr) (cl : List (Str × Addr)) (fp : List Addr), DG (blkX X scope s H C cl fp) tg js dg ∧ DTs (blkX X scope s H C cl fp) ifs dt ∧ DE (blkX X scope s H C cl fp) elt de)
    (hj : ∀ j ∈ js, j ∈ own.map (·.2)) (hs : ∀ x, foldedSetIterable iter X.env x = pure x := by intro _; rfl) : DS X (.Assign [.Name y py] (.ListComp elt [⟨tg, iter, ifs, 0⟩] scope pos) spos) (dAsg (dLcC di dg dt de (own.map (·.2))) (dgName i)) := by
  obtain ⟨wi, a1, a2⟩ := hi.ex
  have b := blk
  refine ⟨_, ps_setLc (g := canG X.prog X.w X.K js dg) (tt := canT X.prog X.w X.K dt) (te := canE X.prog X.w X.K de) hc hN hy hyl hsw a1 ok (fun s H C cl fp => (b s H C cl fp).1.can) (fun s H C cl fp => (b s H C cl fp).2.1.can) (fun s H C cl fp => (b s H C cl fp).2.2.can) hs, fun B S σ ts H D G h hd l => ?_⟩
  refine snd_lcC a2 (snd_canG js dg) (snd_canT dt) (snd_canE de) hj B S σ ts H _ _ h hd fun v d S1 H1 q o => ?_
  obtain ⟨F, α, o⟩ := o
  exact l.nx _ _ H1 q ((o.setSlot o.top).sub mem1).ok
end
end DL

set_option Elab.async false
set_option linter.all false
set_option maxRecDepth 100000
set_option autoImplicit false
set_option maxHeartbeats 2000000
namespace DL
open PySem PySem.Spec L2

/-! ## how long a text of data is, at the most -/
mutual
def wtD : PyData → Nat
  | .none => 5
  | .bool _ => 5
  | .int i => i.natAbs.log2 + 3
  | .str x => (reprText x).length
  | .list xs => wtAll xs + 4
  | .tuple xs => wtAll xs + 4
  | .dict kvs => wtKv kvs + 4
def wtAll : List PyData → Nat
  | [] => 0
  | x :: xs => wtD x + 2 + wtAll xs
def wtKv : List (PyData × PyData) → Nat
  | [] => 0
  | (k, v) :: r => wtD k + wtD v + 4 + wtKv r
end
def lens (ts : List Str) : Nat := (ts.map fun t => t.length + 2).sum
theorem lens_cons (t : Str) (ts : List Str) : lens (t :: ts) = t.length + 2 + lens ts := by simp [lens]
theorem textFrom_top : ∀ (ts : List Str) (k : Nat) (acc : Str), (textFrom k acc ts).length ≤ acc.length + lens ts
  | [], _, _ => Nat.le_refl _
  | t :: ts, k, acc => by
    have h := textFrom_top ts (k + 1) (acc ++ (if k > 0 then ", " else "" : String) ++ t)
    have e : (acc ++ (if k > 0 then ", " else "" : String) ++ t : Str).length ≤ acc.length + (t.length + 2) := by
      rw [Str.length_append, Str.length_append]
      have : ((if k > 0 then ", " else "" : String) : Str).length ≤ 2 := by split <;> decide
      omega
    rw [lens_cons]
    show (textFrom (k + 1) _ ts).length ≤ _
    omega
theorem join_top : ∀ ts : List Str, (Str.join ", " ts).length ≤ lens ts
  | [] => by decide
  | [x] => by show x.length ≤ _; rw [lens_cons]; omega
  | x :: y :: r => by
    have h := join_top (y :: r)
    rw [lens_cons]
    show ((x ++ ", " ++ Str.join ", " (y :: r) : Str)).length ≤ _
    rw [Str.length_append, Str.length_append]
    have : ((", " : String) : Str).length = 2 := rfl
    omega
theorem list_top (ts : List Str) : (listText ts).length ≤ lens ts + 4 := by
  unfold listText
  rw [Str.length_append]
  have h := textFrom_top ts 0 "["
  have e1 : (("[" : String) : Str).length = 1 := rfl
  have e2 : (("]" : String) : Str).length = 1 := rfl
  omega
theorem tuple_top (ts : List Str) : (tupleText ts).length ≤ lens ts + 4 := by
  unfold tupleText
  rw [Str.length_append, Str.length_append]
  have h := join_top ts
  have e1 : (("(" : String) : Str).length = 1 := rfl
  have e2 : (((if ts.length == 1 then ",)" else ")" : String) : Str)).length ≤ 2 := by split <;> decide
  omega
theorem dict_top (ts : List Str) : (dictText ts).length ≤ lens ts + 4 := by
  unfold dictText
  rw [Str.length_append, Str.length_append]
  have h := join_top ts
  have e1 : (("{" : String) : Str).length = 1 := rfl
  have e2 : (("}" : String) : Str).length = 1 := rfl
  omega
mutual
theorem shown_le : ∀ d : PyData, d.shown.length ≤ wtD d
  | .none => by simp only [PyData.shown, wtD]; decide
  | .bool b => by cases b <;> simp only [PyData.shown, wtD] <;> decide
  | .int i => by
    simp only [PyData.shown, wtD]
    have h := int_text_length_le (a := i) (k := i.natAbs.log2 + 1) (Nat.succ_pos _) (Nat.lt_succ_self _)
    have e : ((toString i : String) : Str).length = (toString i).length := PySem.ofString_length _
    omega
  | .str x => by simp only [PyData.shown, wtD]; exact Nat.le_refl _
  | .list xs => by
    simp only [PyData.shown, wtD]
    have h := list_top (PyData.shownAll xs)
    have h2 := lens_le xs
    omega
  | .tuple xs => by
    simp only [PyData.shown, wtD]
    have h := tuple_top (PyData.shownAll xs)
    have h2 := lens_le xs
    omega
  | .dict kvs => by
    simp only [PyData.shown, wtD]
    have h := dict_top (PyData.shownKv kvs)
    have h2 := lensKv_le kvs
    omega
theorem lens_le : ∀ ds : List PyData, lens (PyData.shownAll ds) ≤ wtAll ds
  | [] => by simp only [PyData.shownAll, wtAll]; exact Nat.le_refl _
  | d :: ds => by
    have h1 := shown_le d
    have h2 := lens_le ds
    simp only [PyData.shownAll, wtAll, lens_cons]
    omega
theorem lensKv_le : ∀ ds : List (PyData × PyData), lens (PyData.shownKv ds) ≤ wtKv ds
  | [] => by simp only [PyData.shownKv, wtKv]; exact Nat.le_refl _
  | (k, v) :: ds => by
    have h1 := shown_le k
    have h3 := shown_le v
    have h2 := lensKv_le ds
    simp only [PyData.shownKv, wtKv, lens_cons]
    rw [Str.length_append, Str.length_append]
    have e2 : ((": " : String) : Str).length = 2 := rfl
    omega
end
/-- data that may be shown -/
def CanShow (d : PyData) : Prop := d.showable = true ∧ wtD d ≤ 10000000 ∧ d.depth ≤ 50 ∧ d.hasDict = false
theorem CanShow.fits {d : PyData} (h : CanShow d) : d.shown.length ≤ sizeLine := by
  have h1 := shown_le d
  have h2 := h.2.1
  rw [sizeLine_eq]
  omega

/-! ## data as it lies in the store -/
section
variable {X : Cx} {pins : List (Addr × Obj)} {σ : L2.St} {H F : Hp} {s : Shared}
mutual
theorem reads_of (I : Inv X pins σ H s) (e : Ex F H) : ∀ {d : PyData} {v : V}, Rp X.prog X.w X.K F v d → ∀ {u : Value}, RelV v u → ∃ as, Reads s.heap u d as
  | .none, _, .non, u, r => by cases (show u = Value.none from r); exact ⟨_, .none⟩
  | .bool b, _, .bl _, u, r => by cases (show u = Value.bool b from r); exact ⟨_, .bool b⟩
  | .int i, _, .int _, u, r => by obtain ⟨t, rfl⟩ := (show ∃ t, u = Value.int i t from r); exact ⟨_, .int i t⟩
  | .str x, _, .str _, u, r => by obtain ⟨t, rfl⟩ := (show ∃ t, u = Value.str x t from r); exact ⟨_, .str x t⟩
  | .list ds, _, .lst (a := a) (xs := xs) h hr, u, r => by
    cases (show u = Value.ref a from r)
    have hH := e _ _ h
    obtain ⟨_, its, n, rv, ho⟩ := (show ObjOk X.prog X.w H s.heap a (.lst xs) from I.hok a _ hH)
    obtain ⟨as, ra⟩ := readsAll_of I e hr rv
    exact ⟨_, .list ho rfl rfl ra⟩
  | .tuple ds, _, .tup (a := a) (xs := xs) h hr, u, r => by
    cases (show u = Value.ref a from r)
    obtain ⟨its, rv, ⟨o, ho, hc, n, hd⟩, _⟩ := I.tuple (h.up e).t
    obtain ⟨as, ra⟩ := readsAll_of I e hr rv
    exact ⟨_, .tuple ho hc hd ra⟩
  | .dict ps, _, .dic (a := a) (kvs := kvs) h hk hr, u, r => by
    cases (show u = Value.ref a from r)
    obtain ⟨⟨_, hs, vs, rel, o, es, ep, ho, hx, hd, _, hp, _⟩, _⟩ := (show ObjOk X.prog X.w H s.heap a (DicO X.prog X.w a kvs) from I.hok a _ (e _ _ h))
    have kk : ∀ (kvs : List (Leaf × V)) (vs : List (Leaf × Value)) (es : List DictEntry) (ps : List (PyData × PyData)), KV kvs vs → Pairs (cK X.prog X.w) es vs → ps.map (·.1) = kvs.map (fun p => kvD p.1) → (∃ as, ReadsAll s.heap (es.map (·.key)) (ps.map (·.1)) as) ∧ Vals (kvs.map (·.2)) (es.map (·.val)) := by
      intro kvs
      induction kvs with
      | nil => intro vs es ps r1 r2 r3; cases r1; cases r2; cases ps with
        | nil => exact ⟨⟨_, .nil⟩, .nil⟩
        | cons _ _ => simp at r3
      | cons q kvs ih => intro vs es ps r1 r2 r3; cases r1 with
        | cons q1 q2 => cases r2 with
          | cons p1 p2 p3 => cases ps with
            | nil => simp at r3
            | cons p ps =>
              simp only [List.map_cons, List.cons.injEq] at r3
              obtain ⟨⟨as, i1⟩, i3⟩ := ih _ _ ps q2 p3 r3.2
              obtain ⟨k, v⟩ := q
              obtain ⟨q1a, q1b⟩ := q1
              dsimp only at q1a q1b r3
              have rk := ck_rel p1
              rw [← q1a] at rk
              refine ⟨?_, .cons (by dsimp only; rw [p2]; exact q1b) i3⟩
              rw [List.map_cons, List.map_cons, r3.1]
              cases k with
              | none => rw [show (_ : DictEntry).key = Value.none from rk]; exact ⟨_, .cons .none i1⟩
              | num i => obtain ⟨t, ht⟩ := (show ∃ t, _ = Value.int i t from rk); rw [ht]; exact ⟨_, .cons (.int i t) i1⟩
              | text i => obtain ⟨t, ht⟩ := (show ∃ t, _ = Value.str i t from rk); rw [ht]; exact ⟨_, .cons (.str i t) i1⟩
    obtain ⟨⟨as, i1⟩, i3⟩ := kk kvs vs es.toList ps rel hp hk
    obtain ⟨bs, j1⟩ := readsAll_of I e hr i3
    exact ⟨_, .dict ho hx.1 hd i1 j1⟩
theorem readsAll_of (I : Inv X pins σ H s) (e : Ex F H) : ∀ {ds : List PyData} {vs : List V}, RpAll X.prog X.w X.K F vs ds → ∀ {us : List Value}, Vals vs us → ∃ as, ReadsAll s.heap us ds as
  | [], _, .nil, _, r => by cases r; exact ⟨_, .nil⟩
  | _ :: _, _, .cons h hr, _, r => by
    cases r with
    | cons r1 r2 =>
      obtain ⟨as, a1⟩ := reads_of I e h r1
      obtain ⟨bs, b1⟩ := readsAll_of I e hr r2
      exact ⟨_, .cons a1 b1⟩
end
end

/-! ## repr(x) -/
def rRepr (P : Program) (w : World) (K : PySem.W.Frag) : List V → Hp → VK → Prop := fun vs H Q => ∃ (v : V) (d : PyData) (F : Hp), vs = [v] ∧ Ex F H ∧ Rp P w K F v d ∧ CanShow d ∧ Q (.str d.shown) H
theorem call_reprZ {X : Cx} (hg : X.A.guards = some []) (hu : X.A.units + 60 < cLine) : CallR X (.builtin "repr") (rRepr X.prog X.w X.K) := by
  intro pins s σ H vs us Q I r h
  obtain ⟨v, d, F, rfl, e, hr, hc, q⟩ := h
  obtain ⟨u, rfl, ru⟩ := vals1 r
  obtain ⟨as, ra⟩ := reads_of I e hr ru
  have hf := hc.fits
  cases d with
  | none => cases hr; cases (show u = Value.none from ru); exact P.repr_of_none ⟨.str _, H, I.tok _, ⟨_, rfl⟩, by simpa only [PyData.shown] using q⟩
  | bool b => cases hr; cases (show u = Value.bool b from ru); exact P.repr_of_bool ⟨.str _, H, I.tok _, ⟨_, rfl⟩, by simpa only [PyData.shown] using q⟩
  | int i =>
    cases hr
    obtain ⟨t, rfl⟩ := (show ∃ t, u = Value.int i t from ru)
    exact P.repr_of_int (by simpa [PyData.showable] using hc.1) ⟨.str _, H, I.tok _, ⟨_, rfl⟩, by simpa only [PyData.shown] using q⟩
  | str x =>
    cases hr
    obtain ⟨t, rfl⟩ := (show ∃ t, u = Value.str x t from ru)
    exact P.repr_of_str ⟨.str _, H, I.tok _, ⟨_, rfl⟩, by simpa only [PyData.shown] using q⟩ (by simpa only [PyData.shown] using hf)
  | list xs =>
    cases hr
    cases (show u = _ from ru)
    exact repr_of_reads' ra hc.1 (fun z => by rw [hc.2.2.2] at z; cases z) hg (by have := hc.2.2.1; omega) (fun _ _ e => e) (fun h' u tk hk => ⟨.str _, H, I.kept hk, ⟨_, rfl⟩, q⟩) hf
  | tuple xs =>
    cases hr
    cases (show u = _ from ru)
    exact repr_of_reads' ra hc.1 (fun z => by rw [hc.2.2.2] at z; cases z) hg (by have := hc.2.2.1; omega) (fun _ _ e => e) (fun h' u tk hk => ⟨.str _, H, I.kept hk, ⟨_, rfl⟩, q⟩) hf
  | dict xs =>
    cases hr
    cases (show u = _ from ru)
    exact repr_of_reads' ra hc.1 (fun z => by rw [hc.2.2.2] at z; cases z) hg (by have := hc.2.2.1; omega) (fun _ _ e => e) (fun h' u tk hk => ⟨.str _, H, I.kept hk, ⟨_, rfl⟩, q⟩) hf
def gRepr : DC1 := fun ds S R => match ds with
  | [.imm d] => CanShow d ∧ R (dS d.shown) S
  | _ => False
theorem cd_repr {X : Cx} (hg : X.A.guards = some []) (hu : X.A.units + 60 < cLine) : CallD X (.builtin "repr") gRepr := ⟨_, call_reprZ hg hu, fun B S σ ts H xs ds R Q hl h hd k => by
  match ds, hd with
  | [.imm d], hd =>
    match xs, hl with
    | [x], _ =>
      obtain ⟨F, α, h⟩ := h
      exact ⟨x, d, F, rfl, h.fh, h.tm (x, .imm d) (by simp), hd.1, k _ _ S H hd.2 ((h.sub memA).add vstr).ok⟩⟩
end DL

set_option Elab.async false
set_option linter.all false
set_option maxRecDepth 100000
set_option autoImplicit false
set_option maxHeartbeats 2000000
namespace DL
open PySem PySem.Spec L2

/-! ## built-ins -/
def tyNames : List String := ["NoneType", "bool", "int", "str", "list", "tuple", "dict"]
def isiT (t c : String) : Bool := t == c || (t == "bool" && c == "int")
theorem isi_ok : ∀ t ∈ tyNames, ∀ c ∈ tyNames, kitB t c = some (isiT t c) := by decide +kernel
def tyI : PyData → String
  | .none => "NoneType"
  | .bool _ => "bool"
  | .int _ => "int"
  | .str _ => "str"
  | .list _ => "list"
  | .tuple _ => "tuple"
  | .dict _ => "dict"
theorem tyI_mem (d : PyData) : tyI d ∈ tyNames := by cases d <;> simp [tyI, tyNames]
def tyD (S : DSt) : DV → Option String
  | .imm d => some (tyI d)
  | .cell k => match S.cell k with
    | some (.lst _) => some "list"
    | some (.dic _) => some "dict"
    | _ => none
  | _ => none
def TyZ (P : Program) (w : World) (K : PySem.W.Frag) (H : Hp) (x : V) (t : Value) : Prop := TyX K H x t ∨ ∃ a kvs, x = .ref a ∧ H a = some (DicO P w a kvs) ∧ t = .type "dict"
def rIsiZ (P : Program) (w : World) (K : PySem.W.Frag) : List V → Hp → VK → Prop := fun xs H Q => ∃ (x : V) (c t : String) (b : Bool), xs = [x, .ty c] ∧ TyZ P w K H x (.type t) ∧ kitB t c = some b ∧ Q (.bl b) H
theorem call_isiZ {X : Cx} : CallR X (.builtin "isinstance") (rIsiZ X.prog X.w X.K) := by
  intro pins s σ H xs us Q I r h
  obtain ⟨x, c, t, b, rfl, ty, e, q⟩ := h
  rcases ty with ty | ⟨a, kvs, rfl, hH, ht⟩
  · exact call_isi pins s σ H _ us Q I r ⟨x, _, _, _, b, rfl, .ty c, ty, kit_ty e, q⟩
  · cases ht
    obtain ⟨u1, u2, rfl, r1, r2⟩ := vals2 r
    cases (show u1 = Value.ref a from r1)
    cases (show u2 = Value.type c from r2)
    obtain ⟨⟨_, _, vs, _, o, es, ep, ho, hx, _⟩, _⟩ := (show ObjOk X.prog X.w H s.heap a (DicO X.prog X.w a kvs) from I.hok a _ hH)
    exact PySem.W.kia_one PySem.W.kitx_dict I.kIn ⟨o, ho, hx.1⟩ (kit_ty e) (fun z => nomatch z) fun tk => ⟨.bl b, H, I.tok tk, rfl, q⟩
section
variable {P : Program} {w : World} {K : PySem.W.Frag} {B : Bs} {S S' : DSt} {σ : L2.St} {ts : List (V × DV)} {H F F' : Hp} {α : List Addr} {v : V} {d : DV}
theorem StAt.ty (h : StAt P w K B S σ ts H F α) (hv : VOk P w K F α v d) {t : String} (e : tyD S d = some t) : TyZ P w K H v (.type t) ∧ t ∈ tyNames := by
  cases d with
  | imm d =>
    cases e
    refine ⟨?_, tyI_mem d⟩
    cases hv with
    | non => exact .inl (.base .non)
    | bl b => exact .inl (.base (.bl b))
    | int b => exact .inl (.base (.int b))
    | str b => exact .inl (.base (.str b))
    | lst h1 h2 => exact .inl (.base (.lst (h.fh _ _ h1)))
    | tup h1 h2 => obtain ⟨ob, _, q⟩ := h1; exact .inl (.fTuple (h.fh _ _ q))
    | dic h1 h2 h3 => exact .inr ⟨_, _, rfl, h.fh _ _ h1, rfl⟩
  | cell k =>
    obtain ⟨a, h1, rfl⟩ := hv
    have e : (match S.cell k with | some (.lst _) => some "list" | some (.dic _) => some "dict" | _ => none) = some t := e
    cases q : S.cell k with
    | none => rw [q] at e; cases e
    | some o =>
      obtain ⟨a', g1, _, g3⟩ := h.ce k _ (cell_get q)
      cases h1.symm.trans g1
      rw [q] at e
      cases o with
      | lst es => cases e; obtain ⟨xs, g4, _⟩ := g3; exact ⟨.inl (.base (.lst g4)), by simp [tyNames]⟩
      | dic _ => cases e; obtain ⟨xs, g4, _⟩ := g3; exact ⟨.inr ⟨_, _, rfl, g4, rfl⟩, by simp [tyNames]⟩
      | ins _ _ => cases e
      | ho _ => cases e
      | lck _ _ => cases e
      | tdk _ => cases e
  | raw _ => cases e
  | obj _ => cases e
  | scr _ => cases e
end
def gIsi : DC1 := fun ds S R => match ds with
  | [x, .raw (.ty c)] => match tyD S x with
    | some t => c ∈ tyNames ∧ R (dB (isiT t c)) S
    | none => False
  | _ => False
section
variable {X : Cx}
theorem cd_isi : CallD X (.builtin "isinstance") gIsi := ⟨_, call_isiZ, fun B S σ ts H xs ds R Q hl h hd k => by
  unfold gIsi at hd
  split at hd
  · rename_i x c
    split at hd
    · rename_i t e
      match xs, hl with
      | [y, z], _ =>
        obtain ⟨F, α, h⟩ := h
        have h1 := h.tm (y, x) (by simp)
        have h2 := h.tm (z, .raw (.ty c)) (by simp)
        obtain ⟨t1, t2⟩ := h.ty h1 e
        cases (show z = V.ty c from h2)
        exact ⟨y, c, t, _, rfl, t1, isi_ok _ t2 _ hd.1, k _ _ S H hd.2 ((h.sub memA).add vbl).ok⟩
    · exact hd.elim
  · exact hd.elim⟩
/-! ### len -/
def gLen : DC1 := fun ds S R => match ds with
  | [x] => match S.seq x with
    | some (_, es) => R (dI es.length) S
    | none => match x.str? with
      | some z => z.length ≤ sizeLine ∧ R (dI z.length) S
      | none => False
  | _ => False
theorem cd_len : CallD X (.builtin "len") gLen := ⟨_, .or call_len_seq call_len_str, fun B S σ ts H xs ds R Q hl h hd k => by
  match ds, hd with
  | [x], hd =>
    match xs, hl with
    | [y], _ =>
      obtain ⟨F, α, h⟩ := h
      have h1 := h.tm (y, x) (by simp)
      have hd' : match S.seq x with
        | some (_, es) => R (dI es.length) S
        | none => match x.str? with
          | some z => z.length ≤ sizeLine ∧ R (dI z.length) S
          | none => False := hd
      split at hd'
      · rename_i b es e
        obtain ⟨p, ys, rfl, hq, hp⟩ := h.seq h1 e
        refine .inl ⟨p, ys, rfl, ?_, ?_⟩
        · cases b with
          | true => exact .inl hq
          | false => exact .inr hq
        · rw [Paired.length hp]
          exact k _ _ S H hd' ((h.sub memA).add vint).ok
      · split at hd'
        · rename_i z e
          rw [str?_eq e] at h1
          have h1' := vok_str h1
          dsimp only at h1'
          exact .inr ⟨z, by rw [h1'], hd'.1, k _ _ S H hd'.2 ((h.sub memA).add vint).ok⟩
        · exact hd'.elim⟩
/-! ### all, any, sum, max, min -/
def allB : List DV → Option (List Bool)
  | [] => some []
  | .imm (.bool b) :: r => (allB r).map (b :: ·)
  | _ :: _ => none
def allI : List DV → Option (List Int)
  | [] => some []
  | .imm (.int b) :: r => (allI r).map (b :: ·)
  | _ :: _ => none
theorem allB_map (bs : List Bool) : allB (bs.map dB) = some bs := by
  induction bs with
  | nil => rfl
  | cons p r ih => show (allB (r.map dB)).map _ = _; rw [ih]; rfl
theorem allI_map (bs : List Int) : allI (bs.map dI) = some bs := by
  induction bs with
  | nil => rfl
  | cons p r ih => show (allI (r.map dI)).map _ = _; rw [ih]; rfl
section
variable {P : Program} {w : World} {K : PySem.W.Frag} {F : Hp} {α : List Addr}
theorem allB_ok : ∀ {ds : List DV} {xs : List V} {bs : List Bool}, Paired (VOk P w K F α) xs ds → allB ds = some bs → xs = bs.map V.bl
  | [], _, bs, p, e => by cases p; cases e; rfl
  | d :: r, _, bs, .cons h t, e => by
    cases d with
    | imm d =>
      cases d with
      | bool b =>
        have e' : (allB r).map (b :: ·) = some bs := e
        cases q : allB r with
        | none => rw [q] at e'; cases e'
        | some l => rw [q] at e'; cases e'; rw [vok_bl h, allB_ok t q]; rfl
      | _ => cases e
    | _ => cases e
theorem allI_ok : ∀ {ds : List DV} {xs : List V} {bs : List Int}, Paired (VOk P w K F α) xs ds → allI ds = some bs → xs = bs.map V.int
  | [], _, bs, p, e => by cases p; cases e; rfl
  | d :: r, _, bs, .cons h t, e => by
    cases d with
    | imm d =>
      cases d with
      | int b =>
        have e' : (allI r).map (b :: ·) = some bs := e
        cases q : allI r with
        | none => rw [q] at e'; cases e'
        | some l => rw [q] at e'; cases e'; rw [vok_int h, allI_ok t q]; rfl
      | _ => cases e
    | _ => cases e
end
def gBools (f : List Bool → Bool) : DC1 := fun ds S R => match ds with
  | [x] => match S.seq x with
    | some (true, es) => match allB es with
      | some bs => R (dB (f bs)) S
      | none => False
    | _ => False
  | _ => False
theorem snd_bools {P : Program} {w : World} {K : PySem.W.Frag} (f : List Bool → Bool) : SndC P w K (fun vs H Q => ∃ (a : Addr) (bs : List Bool), vs = [V.ref a] ∧ SqL K H a (bs.map V.bl) ∧ Q (.bl (f bs)) H) (gBools f) := fun B S σ ts H xs ds R Q hl h hd k => by
  match ds, hd with
  | [x], hd =>
    match xs, hl with
    | [y], _ =>
      obtain ⟨F, α, h⟩ := h
      have h1 := h.tm (y, x) (by simp)
      have hd' : match S.seq x with
        | some (true, es) => match allB es with
          | some bs => R (dB (f bs)) S
          | none => False
        | _ => False := hd
      split at hd'
      · rename_i es e
        obtain ⟨p, ys, rfl, hq, hp⟩ := h.seq h1 e
        split at hd'
        · rename_i bs e2
          have hq' : SqL K H p ys := hq
          rw [allB_ok hp e2] at hq'
          exact ⟨p, bs, rfl, hq', k _ _ S H hd' ((h.sub memA).add vbl).ok⟩
        · exact hd'.elim
      · exact hd'.elim
theorem cd_all (hc : X.calm = true) : CallD X (.builtin "all") (gBools fun bs => bs.all id) := ⟨_, cr_all hc, snd_bools _⟩
theorem cd_any (hc : X.calm = true) : CallD X (.builtin "any") (gBools fun bs => bs.any id) := ⟨_, cr_any hc, snd_bools _⟩
/-- two ints -/
def gII2 (f : Int → Int → Int) : DC1 := fun ds S R => match ds with
  | [x, y] => match x.int?, y.int? with
    | some i, some j => R (dI (f i j)) S
    | _, _ => False
  | _ => False
theorem snd_II2 {P : Program} {w : World} {K : PySem.W.Frag} (f : Int → Int → Int) : SndC P w K (fun vs H Q => ∃ i j, vs = [V.int i, V.int j] ∧ Q (.int (f i j)) H) (gII2 f) := fun B S σ ts H xs ds R Q hl h hd k => by
  match ds, hd with
  | [x, y], hd =>
    match xs, hl with
    | [u, v], _ =>
      obtain ⟨F, α, h⟩ := h
      have h1 := h.tm (u, x) (by simp)
      have h2 := h.tm (v, y) (by simp)
      have hd' : match x.int?, y.int? with
        | some i, some j => R (dI (f i j)) S
        | _, _ => False := hd
      split at hd'
      · rename_i i j e1 e2
        rw [int?_eq e1] at h1
        rw [int?_eq e2] at h2
        have h1' := vok_int h1
        have h2' := vok_int h2
        dsimp only at h1' h2'
        subst h1' h2'
        exact ⟨i, j, rfl, k _ _ S H hd' ((h.sub memA).add vint).ok⟩
      · exact hd'.elim
theorem cd_min2 (hc : X.calm = true) : CallD X (.builtin "min") (gII2 fun i j => if j < i then j else i) := ⟨_, call_min2 hc, snd_II2 _⟩
theorem cd_max2 (hc : X.calm = true) : CallD X (.builtin "max") (gII2 fun i j => if j > i then j else i) := ⟨_, call_max2 hc, snd_II2 _⟩
/-! ### set(t), t a tuple of ints; sorted(set(t)) -/
theorem call_setT (hc : X.calm = true) : CallR X (.type "set") (fun xs H Q => ∃ (p : Addr) (ns : List Int), xs = [.ref p] ∧ SqT X.K H p (ns.map V.int) ∧ ns.length + 1 < scanBound ∧ ∀ (b : Addr) (ks : List Int), H b = none → ks.Nodup → (∀ k, k ∈ ks ↔ k ∈ ns) → Q (.ref b) (upd H b (SetO X.w b (fun j => decide (j ∈ ns)) ks.length))) := by
  intro pins s σ H xs us Q I r h
  obtain ⟨p, ns, rfl, hq, hz, q⟩ := h
  obtain ⟨u, rfl, ru⟩ := vals1 r
  cases (show u = Value.ref p from ru)
  obtain ⟨its, rv, hp, _⟩ := I.tuple hq
  refine call_set_tupI ns (I.ok.hd hc) hp (by simpa using rv.ints) hz fun h' tk c hS hcl kp => ?_
  obtain ⟨o, es, ep, t, _, _, _, _, nd, mem, _, _, sz, _⟩ := id hS
  have hc' : c = (es.toList.map keyOf).length := by rw [List.length_map, Array.length_toList]; exact sz.symm
  rw [hc'] at hS
  exact ⟨.ref _, _, I.laid (t' := tk) kp (Nat.le_refl _) (setO_new hS), rfl, q _ (es.toList.map keyOf) (I.hok.fresh (Nat.le_refl _)) nd fun k => by rw [← mem k]; exact decide_eq_true_iff⟩
def gSetT (w : World) : DC1 := fun ds S R => match ds with
  | [x] => match S.seq x with
    | some (false, es) => match allI es with
      | some ns => ns.length + 1 < scanBound ∧ ∀ ks : List Int, ks.Nodup → (∀ k, k ∈ ks ↔ k ∈ ns) → R (.obj fun b => SetO w b (fun j => decide (j ∈ ns)) ks.length) S
      | none => False
    | _ => False
  | _ => False
theorem cd_setT (hc : X.calm = true) : CallD X (.type "set") (gSetT X.w) := ⟨_, call_setT hc, fun B S σ ts H xs ds R Q hl h hd k => by
  match ds, hd with
  | [x], hd =>
    match xs, hl with
    | [y], _ =>
      obtain ⟨F, α, h⟩ := h
      have h1 := h.tm (y, x) (by simp)
      have hd' : match S.seq x with
        | some (false, es) => match allI es with
          | some ns => ns.length + 1 < scanBound ∧ ∀ ks : List Int, ks.Nodup → (∀ k, k ∈ ks ↔ k ∈ ns) → R (.obj fun b => SetO X.w b (fun j => decide (j ∈ ns)) ks.length) S
          | none => False
        | _ => False := hd
      split at hd'
      · rename_i es e
        obtain ⟨p, ys, rfl, hq, hp⟩ := h.seq h1 e
        split at hd'
        · rename_i ns e2
          have hq' : SqT X.K H p ys := hq
          rw [allI_ok hp e2] at hq'
          exact ⟨p, ns, rfl, hq', hd'.1, fun b ks hb h1 h2 => k _ _ S _ (hd'.2 ks h1 h2) (((h.sub memA).lay hb).add (d := .obj _) ⟨b, rfl, upd_same⟩).ok⟩
        · exact hd'.elim
      · exact hd'.elim⟩
def gSortedSet (w : World) : DC1 := fun ds S R => match ds with
  | [.obj φ] => ∃ (f : Int → Bool) (c : Nat), (φ = fun b => SetO w b f c) ∧ c < 64 ∧ ∀ ns : List Int, ns.Pairwise (· < ·) → (∀ k, k ∈ ns ↔ f k = true) → ns.length = c → R (.imm (.list (ns.map .int))) S
  | _ => False
theorem rp_ints {P : Program} {w : World} {K : PySem.W.Frag} {F : Hp} : ∀ ns : List Int, RpAll P w K F (ns.map V.int) (ns.map .int)
  | [] => .nil
  | n :: r => .cons (.int n) (rp_ints r)
theorem cd_sortedSet (hc : X.calm = true) : CallD X (.builtin "sorted") (gSortedSet X.w) := ⟨_, cr_sortedSet hc, fun B S σ ts H xs ds R Q hl h hd k => by
  unfold gSortedSet at hd
  split at hd
  · rename_i φ
    match xs, hl with
    | [y], _ =>
      obtain ⟨F, α, h⟩ := h
      obtain ⟨b, rfl, h2⟩ := (show ∃ b, y = .ref b ∧ F b = some (φ b) from h.tm (y, .obj φ) (by simp))
      obtain ⟨f, c, rfl, h64, hd⟩ := hd
      exact ⟨b, f, c, rfl, h.fh _ _ h2, h64, fun ns p h1 h3 h4 hp => k _ _ S _ (hd ns h1 h3 h4) ((h.sub memA).newLst hp (rp_ints ns)).ok⟩
  · exact hd.elim⟩
end

/-! ## methods -/
abbrev DM := DV → List DV → DSt → (DV → DSt → Prop) → Prop
def SndM (P : Program) (w : World) (K : PySem.W.Frag) (r : V → List V → Hp → VK → Prop) (g : DM) : Prop := ∀ (B : Bs) (S : DSt) (σ : L2.St) (ts : List (V × DV)) (H : Hp) (x : V) (dx : DV) (xs : List V) (ds : List DV) (R : DV → DSt → Prop) (Q : VK), xs.length = ds.length →
  StOk P w K B S σ (xs.zip ds ++ (x, dx) :: ts) H → g dx ds S R → (∀ v d S' H', R d S' → StOk P w K B S' σ ((v, d) :: ts) H' → Q v H') → r x xs H Q
structure MthD (X : Cx) (id : String) (g : DM) : Prop where
  ex : ∃ r, MtR X id r ∧ SndM X.prog X.w X.K r g
def isM (S : DSt) (T : String) (d : DV) : Prop := (T = "list" ∧ ∃ ds, S.seq d = some (true, ds)) ∨ (T = "str" ∧ ∃ z, d.str? = some z)
def dBM (T : String) (g : DM) (do' : DTE) (da : DTA) : DTE := fun S R => do' S fun x S1 => isM S1 T x ∧ da S1 fun ds S2 => g x ds S2 R
def dBM0 (T : String) (g : DM) (do' : DTE) : DTE := fun S R => do' S fun x S1 => isM S1 T x ∧ g x [] S1 R
section
variable {P : Program} {w : World} {K : PySem.W.Frag} {B : Bs} {S S' : DSt} {σ : L2.St} {ts : List (V × DV)} {H F F' : Hp} {α : List Addr} {v : V} {d : DV} {T : String} {r : V → List V → Hp → VK → Prop} {g : DM} {to : TE} {do' : DTE} {ta : TA} {da : DTA}
theorem StAt.isM (h : StAt P w K B S σ ts H F α) (hv : VOk P w K F α v d) (e : isM S T d) : tyV K T v H := by
  rcases e with ⟨rfl, ds, e⟩ | ⟨rfl, z, e⟩
  · obtain ⟨p, ys, rfl, hq, _⟩ := h.seq hv e
    exact .inl ⟨rfl, ys, hq⟩
  · rw [str?_eq e] at hv
    rw [vok_str hv]
    rfl
theorem snd_bm (ho : SndE P w K to do') (ha : SndA P w K ta da) (hr : SndM P w K r g) : SndE P w K (tBM K T r to ta) (dBM T g do' da) := fun B S σ ts H R Q h hd k =>
  ho B S σ ts H _ _ h hd fun x dx S1 H1 q o => by
    obtain ⟨F, α, o⟩ := o
    exact ⟨o.isM o.top q.1, ha B S1 σ _ H1 _ _ o.ok q.2 fun vs ds S2 H2 hl q2 o2 => hr B S2 σ ts H2 x dx vs ds R Q hl o2 q2 k⟩
theorem snd_bm0 (ho : SndE P w K to do') (hr : SndM P w K r g) : SndE P w K (tBM0 K T r to) (dBM0 T g do') := fun B S σ ts H R Q h hd k =>
  ho B S σ ts H _ _ h hd fun x dx S1 H1 q o => by
    obtain ⟨F, α, o⟩ := o
    exact ⟨o.isM o.top q.1, hr B S1 σ ts H1 x dx [] [] R Q rfl o.ok q.2 k⟩
/-- a cell that is a list -/
theorem StAt.cellL {k : Nat} {ds : List DV} (h : StAt P w K B S σ ts H F α) (hv : VOk P w K F α v (.cell k)) (e : S.cell k = some (.lst ds)) : ∃ a xs, v = .ref a ∧ α[k]? = some a ∧ F a = none ∧ H a = some (.lst xs) ∧ Paired (VOk P w K F α) xs ds := by
  obtain ⟨a, h1, rfl⟩ := hv
  obtain ⟨a', g1, g2, xs, g3, g4⟩ := h.ce k _ (cell_get e)
  cases h1.symm.trans g1
  exact ⟨a, xs, rfl, h1, g2, g3, g4⟩
end
section
variable {X : Cx} {o e : Expr} {es : List Expr} {name : Str} {apos cpos : Pos} {T id : String} {g : DM} {do' : DTE} {da : DTA}
theorem de_bm (hm : MthD X id g) (ho : DE X o do') (ha : DA X (e :: es) da) (pa : PlainAttrs T) (slot : Slot T name id) (hty : typeOf (.builtin id) = pure (.type "method_descriptor"))
    (hbase : attributeBase o name X.env (eval o X.env) = eval o X.env := by rfl)
    (hfew : ((backTo cpos (starEach (e :: es) X.env)).all (fun x => !x.1) && (backToKw cpos (keywordEach [] X.env)).all (fun x => x.1.isSome)
      && decide ((e :: es).length + ([] : List Keyword).length + (if ([] : List Keyword).isEmpty then 0 else 1) < 30)) = true := by rfl)
    (hline : (apos.endLine == cpos.line) = true := by rfl) (hs : starEach (e :: es) X.env = (false, eval e X.env) :: starEach es X.env := by rfl) (hplain : (backTo cpos (starEach es X.env)).any (·.1) = false := by rfl) :
    DE X (.Call (.Attribute o name apos) (e :: es) [] cpos) (dBM T g do' da) := by
  obtain ⟨r, m1, m2⟩ := hm.ex
  obtain ⟨to, o1, o2⟩ := ho.ex
  obtain ⟨ta, a1, a2⟩ := ha.ex
  exact ⟨_, pe_bm pa slot hty m1 o1 a1 hbase hfew hline hs hplain, snd_bm o2 a2 m2⟩
theorem de_bm0 (hm : MthD X id g) (ho : DE X o do') (pa : PlainAttrs T) (slot : Slot T name id) (hty : typeOf (.builtin id) = pure (.type "method_descriptor"))
    (hbase : attributeBase o name X.env (eval o X.env) = eval o X.env := by rfl) (hline : (apos.endLine == cpos.line) = true := by rfl) :
    DE X (.Call (.Attribute o name apos) [] [] cpos) (dBM0 T g do') := by
  obtain ⟨r, m1, m2⟩ := hm.ex
  obtain ⟨to, o1, o2⟩ := ho.ex
  exact ⟨_, pe_bm0 pa slot hty m1 o1 hbase hline, snd_bm0 o2 m2⟩
def gAppend : DM := fun x ds S R => match x, ds with
  | .cell k, [d] => match S.cell k with
    | some (.lst es) => es.length < sizeLine ∧ R dN (S.put k (.lst (es ++ [d])))
    | _ => False
  | _, _ => False
theorem md_append : MthD X "list.append" gAppend := ⟨_, mt_append, fun B S σ ts H x dx xs ds R Q hl h hd k => by
  unfold gAppend at hd
  split at hd
  · rename_i kk d
    split at hd
    · rename_i es e
      match xs, hl with
      | [y], _ =>
        obtain ⟨F, α, h⟩ := h
        obtain ⟨a, zs, rfl, g1, g2, g3, g4⟩ := h.cellL (h.tm (x, .cell kk) (by simp)) e
        have hy := h.tm (y, d) (by simp)
        exact ⟨a, zs, y, rfl, rfl, g3, by rw [Paired.length g4]; exact hd.1, k _ _ _ _ hd.2 (((h.sub fun p hp => by simp [hp]).cellPut (u := .lst (es ++ [d])) g1 g2 ⟨_, upd_same, Paired.app' g4 (.cons hy .nil)⟩).add vnon).ok⟩
    · exact hd.elim
  · exact hd.elim⟩
def gExtend : DM := fun x ds S R => match x, ds with
  | .cell k, [d] => match S.cell k, S.lst d with
    | some (.lst es), some fs => es.length + fs.length ≤ sizeLine ∧ R dN (S.put k (.lst (es ++ fs)))
    | _, _ => False
  | _, _ => False
theorem md_extend : MthD X "list.extend" gExtend := ⟨_, mt_extend, fun B S σ ts H x dx xs ds R Q hl h hd k => by
  unfold gExtend at hd
  split at hd
  · rename_i kk d
    split at hd
    · rename_i es fs e e2
      match xs, hl with
      | [y], _ =>
        obtain ⟨F, α, h⟩ := h
        obtain ⟨a, zs, rfl, g1, g2, g3, g4⟩ := h.cellL (h.tm (x, .cell kk) (by simp)) e
        obtain ⟨b, ws, rfl, j1, j2⟩ := h.lst (h.tm (y, d) (by simp)) e2
        exact ⟨a, b, zs, ws, rfl, rfl, g3, j1, by rw [Paired.length g4, Paired.length j2]; exact hd.1, k _ _ _ _ hd.2 (((h.sub fun p hp => by simp [hp]).cellPut (u := .lst (es ++ fs)) g1 g2 ⟨_, upd_same, Paired.app' g4 j2⟩).add vnon).ok⟩
    · exact hd.elim
  · exact hd.elim⟩
end
end DL

set_option Elab.async false
set_option linter.all false
set_option maxRecDepth 100000
set_option autoImplicit false
set_option maxHeartbeats 2000000
namespace DL
open PySem PySem.Spec L2

/-! ## dicts -/
def leafOf : PyData → Option Leaf
  | .none => some .none
  | .int i => some (.num i)
  | .str x => some (.text x)
  | _ => none
def keyOf : DV → Option Leaf
  | .imm d => leafOf d
  | _ => none
def allLeaf : List (PyData × PyData) → Option (List (Leaf × DV))
  | [] => some []
  | (k, d) :: r => match leafOf k, allLeaf r with
    | some l, some s => some ((l, .imm d) :: s)
    | _, _ => none
def DSt.dict (S : DSt) : DV → Option (List (Leaf × DV))
  | .imm (.dict ps) => allLeaf ps
  | .cell k => match S.cell k with
    | some (.dic kvs) => some kvs
    | _ => none
  | _ => none
def valG {D : Type} (kvs : List (Leaf × D)) (k : Leaf) : Option D := (kvs.find? fun p => decide (p.1 = k)).map (·.2)
def putG {D : Type} (kvs : List (Leaf × D)) (k : Leaf) (d : D) : List (Leaf × D) :=
  if (kvs.any fun p => decide (p.1 = k)) = true then kvs.map (fun p => if p.1 = k then (p.1, d) else p) else kvs ++ [(k, d)]
theorem leafOf_kvD (k : Leaf) : leafOf (kvD k) = some k := by cases k <;> rfl
section
variable {P : Program} {w : World} {K : PySem.W.Frag} {B : Bs} {S S' : DSt} {σ : L2.St} {ts : List (V × DV)} {H F F' : Hp} {α : List Addr} {v : V} {d : DV}
def KVOk (P : Program) (w : World) (K : PySem.W.Frag) (F : Hp) (α : List Addr) : Leaf × V → Leaf × DV → Prop := fun p q => p.1 = q.1 ∧ VOk P w K F α p.2 q.2
theorem leafs_ok : ∀ {kvs : List (Leaf × V)} {ps : List (PyData × PyData)} {es : List (Leaf × DV)}, ps.map (·.1) = kvs.map (fun p => kvD p.1) → RpAll P w K F (kvs.map (·.2)) (ps.map (·.2)) → allLeaf ps = some es → Paired (KVOk P w K F α) kvs es
  | [], [], es, _, _, h => by cases h; exact .nil
  | [], _ :: _, _, h, _, _ => by simp at h
  | _ :: _, [], _, h, _, _ => by simp at h
  | (k, v) :: kvs, (p, q) :: ps, es, h, r, e => by
    simp only [List.map_cons, List.cons.injEq] at h
    obtain ⟨h1, h2⟩ := h
    subst h1
    have e' : (match leafOf (kvD k), allLeaf ps with | some l, some s => some ((l, DV.imm q) :: s) | _, _ => none) = some es := e
    rw [leafOf_kvD] at e'
    cases z : allLeaf ps with
    | none => rw [z] at e'; cases e'
    | some s =>
      rw [z] at e'
      cases e'
      cases r with
      | cons r1 r2 => exact .cons ⟨rfl, r1⟩ (leafs_ok h2 r2 z)
theorem StAt.dict (h : StAt P w K B S σ ts H F α) (hv : VOk P w K F α v d) {es : List (Leaf × DV)} (e : S.dict d = some es) : ∃ a kvs, v = .ref a ∧ H a = some (DicO P w a kvs) ∧ Paired (KVOk P w K F α) kvs es := by
  cases d with
  | imm d =>
    cases d with
    | dict ps =>
      cases hv with
      | dic h1 h2 h3 => exact ⟨_, _, rfl, h.fh _ _ h1, leafs_ok h2 h3 e⟩
    | _ => cases e
  | cell k =>
    obtain ⟨a, h1, rfl⟩ := hv
    have e' : (match S.cell k with | some (.dic kvs) => some kvs | _ => none) = some es := e
    cases q : S.cell k with
    | none => rw [q] at e'; cases e'
    | some o =>
      rw [q] at e'
      cases o with
      | dic ks =>
        cases e'
        obtain ⟨a', g1, _, xs, g2, g3⟩ := h.ce k _ (cell_get q)
        cases h1.symm.trans g1
        exact ⟨a, xs, rfl, g2, g3⟩
      | lst _ => cases e'
      | ins _ _ => cases e'
      | ho _ => cases e'
      | lck _ _ => cases e'
      | tdk _ => cases e'
  | raw _ => cases e
  | obj _ => cases e
  | scr _ => cases e
theorem key_ok (hv : VOk P w K F α v d) {k : Leaf} (e : keyOf d = some k) : v = kvV k := by
  cases d with
  | imm d => cases hv <;> first | (cases e; rfl) | (exact absurd e (by simp [keyOf, leafOf]))
  | _ => cases e
theorem valG_ok {kvs : List (Leaf × V)} {es : List (Leaf × DV)} (h : Paired (KVOk P w K F α) kvs es) {k : Leaf} {d : DV} (e : valG es k = some d) : ∃ v, valV kvs k = some v ∧ VOk P w K F α v d := by
  induction h with
  | nil => cases e
  | @cons p q ps qs h t ih =>
    obtain ⟨h1, h2⟩ := h
    by_cases c : q.1 = k
    · have c' : p.1 = k := h1.trans c
      refine ⟨p.2, valV_pos c', ?_⟩
      have : valG (q :: qs) k = some q.2 := by simp [valG, List.find?_cons, c]
      rw [this] at e; cases e; exact h2
    · have c' : ¬ p.1 = k := fun z => c (h1.symm.trans z)
      have : valG (q :: qs) k = valG qs k := by simp [valG, List.find?_cons, c]
      rw [this] at e
      obtain ⟨v, v1, v2⟩ := ih e
      exact ⟨v, by rw [valV_neg c']; exact v1, v2⟩
theorem valG_some {kvs : List (Leaf × V)} {es : List (Leaf × DV)} (h : Paired (KVOk P w K F α) kvs es) (k : Leaf) : (valV kvs k).isSome = (valG es k).isSome := by
  induction h with
  | nil => rfl
  | @cons p q ps qs h t ih =>
    obtain ⟨h1, h2⟩ := h
    by_cases c : q.1 = k
    · have c' : p.1 = k := h1.trans c
      rw [valV_pos c']
      simp [valG, List.find?_cons, c]
    · have c' : ¬ p.1 = k := fun z => c (h1.symm.trans z)
      rw [valV_neg c', ih]
      simp [valG, List.find?_cons, c]
theorem putG_ok {kvs : List (Leaf × V)} {es : List (Leaf × DV)} (h : Paired (KVOk P w K F α) kvs es) (k : Leaf) (hv : VOk P w K F α v d) : Paired (KVOk P w K F α) (putK kvs k v) (putG es k d) := by
  have ha : ∀ {kvs : List (Leaf × V)} {es : List (Leaf × DV)}, Paired (KVOk P w K F α) kvs es → (kvs.any fun p => decide (p.1 = k)) = (es.any fun p => decide (p.1 = k)) := by
    intro kvs es h
    induction h with
    | nil => rfl
    | cons h t ih => rw [List.any_cons, List.any_cons, ih, h.1]
  unfold putK putG
  rw [ha h]
  by_cases c : (es.any fun p => decide (p.1 = k)) = true
  · rw [if_pos c, if_pos c]
    clear c
    induction h with
    | nil => exact .nil
    | @cons p q ps qs h t ih =>
      rw [List.map_cons, List.map_cons]
      refine .cons ?_ ih
      obtain ⟨h1, h2⟩ := h
      by_cases c : q.1 = k
      · rw [if_pos c, if_pos (h1.trans c)]; exact ⟨h1, hv⟩
      · rw [if_neg c, if_neg (fun z => c (h1.symm.trans z))]; exact ⟨h1, h2⟩
  · rw [if_neg c, if_neg c]
    exact Paired.app' h (.cons ⟨rfl, hv⟩ .nil)
end
/-! ### the steps -/
section
variable {X : Cx} {pins : List (Addr × Obj)} {σ : L2.St} {H : Hp} {s : Shared} {a : Addr} {kvs : List (Leaf × V)}
theorem dz_of (I : Inv X pins σ H s) (e : H a = some (DicO X.prog X.w a kvs)) : kvs.length ≤ sizeLine ∧ (a == sysModules) = false ∧ ∃ vs, KV kvs vs ∧ s.heap.DictOf (cK X.prog X.w) a vs :=
  (show ObjOk X.prog X.w H s.heap a (DicO X.prog X.w a kvs) from I.hok a _ e).1
theorem dz_ok {H' : Hp} {h : Heap} {vs : List (Leaf × Value)} (z : kvs.length ≤ sizeLine) (hd : (a == sysModules) = false) (r : KV kvs vs) (dd : h.DictOf (cK X.prog X.w) a vs) : ObjOk X.prog X.w H' h a (DicO X.prog X.w a kvs) := by
  refine ⟨⟨z, hd, vs, r, dd⟩, ?_, fun h1 h2 ⟨q1, q2, vs', q3, q4⟩ k => ⟨q1, q2, vs', q3, ?_⟩⟩
  · obtain ⟨o, _, _, ho, _⟩ := dd
    exact ⟨o, ho⟩
  · obtain ⟨o, es, ep, ho, r⟩ := q4
    exact ⟨o, es, ep, k o ho, r⟩
def rAtZ (P : Program) (w : World) : R2 := fun x y H Q => ∃ a kvs k v, x = .ref a ∧ H a = some (DicO P w a kvs) ∧ y = kvV k ∧ valV kvs k = some v ∧ Q v H
theorem ix_dicZ : IxR X (rAtZ X.prog X.w) := by
  intro value slice pins s σ H x y v u Q I rx ry h hs
  obtain ⟨a, kvs, k, z, rfl, hH, rfl, hv, q⟩ := h
  cases (show v = Value.ref a from rx)
  obtain ⟨_, hd, vs, rel, dd⟩ := dz_of I hH
  obtain ⟨u', hu, ru⟩ := RelO.some_of (v := z) (o := valueAt vs k) (by rw [← hv]; exact rel.val k)
  exact PyProof.Rows.tail_any dd.typeIs PySem.F.slot_dict_getitem.lookup (wpAny_getItem_of (ck_of ry) dd.mapOf hu ⟨z, H, I.tok _, ru, q⟩) hs
def rInZ (P : Program) (w : World) (neg : Bool) : R2 := fun x y H Q => ∃ a kvs k, y = .ref a ∧ H a = some (DicO P w a kvs) ∧ x = kvV k ∧ Q (.bl (if neg = true then !(valV kvs k).isSome else (valV kvs k).isSome)) H
theorem op_inZ : OpR X (compareOp .In) (rInZ X.prog X.w false) := by
  intro pins s σ H x y v u Q I rx ry h
  obtain ⟨a, kvs, k, rfl, hH, rfl, q⟩ := h
  cases (show u = Value.ref a from ry)
  obtain ⟨_, hd, vs, rel, dd⟩ := dz_of I hH
  have e := (rel.val k).isSome_eq
  exact wpAny_in_of (ck_of rx) hd dd.mapOf ⟨_, H, I.tok _, by rw [← e]; rfl, q⟩
theorem op_ninZ : OpR X (compareOp .NotIn) (rInZ X.prog X.w true) := by
  intro pins s σ H x y v u Q I rx ry h
  obtain ⟨a, kvs, k, rfl, hH, rfl, q⟩ := h
  cases (show u = Value.ref a from ry)
  obtain ⟨_, hd, vs, rel, dd⟩ := dz_of I hH
  have e := (rel.val k).isSome_eq
  exact wpAny_notIn_of (ck_of rx) hd dd.mapOf ⟨_, H, I.tok _, by rw [← e]; rfl, q⟩
theorem dz_put {vs : List (Leaf × Value)} {k : Leaf} {y : V} {u : Value} {h' : Heap} {t' : Nat} (I : Inv X pins σ H s) (e : H a = some (DicO X.prog X.w a kvs)) (hz : kvs.length < sizeLine) (hd : (a == sysModules) = false) (rel : KV kvs vs) (ry : RelV y u)
    (dd : h'.DictOf (cK X.prog X.w) a (stored vs k u)) (hs : Heap.SameBut a s.heap h') : Inv X pins σ (upd H a (DicO X.prog X.w a (putK kvs k y))) { s with heap := h', toks := t' } := by
  have he : ∃ q, h'.get? a = some q := let ⟨q, _, _, hq, _⟩ := dd; ⟨q, hq⟩
  have hl : (putK kvs k y).length ≤ sizeLine := by have := length_putK kvs k y; omega
  exact d_write I (by rw [e]; exact True.intro) hs he (dz_ok hl hd (rel.put k ry) dd)
def rSetZ (P : Program) (w : World) : V → V → V → Hp → (Hp → Prop) → Prop := fun o i v H Q => ∃ a kvs k, o = .ref a ∧ i = kvV k ∧ H a = some (DicO P w a kvs) ∧ kvs.length < sizeLine ∧ Q (upd H a (DicO P w a (putK kvs k v)))
theorem set_dicZ : PSet X (rSetZ X.prog X.w) := by
  intro pins s σ H o i v ov iv u Q I ro ri rv h
  obtain ⟨a, kvs, k, rfl, rfl, hH, hz, q⟩ := h
  cases (show ov = Value.ref a from ro)
  obtain ⟨z, hd, vs, rel, dd⟩ := dz_of I hH
  exact wpAny_setItem_pairs (hsz := by rw [← rel.length]; exact z) (ck_of ri) dd fun h' dd' hs => ⟨_, dz_put I hH hz hd rel rv dd' hs, q⟩
/-- d[k] = v within a comprehension -/
theorem dz_dictSet {E : Value → Shared → Prop} {k : Leaf} {v : V} {u r : Value} {Q : Unit → Shared → Prop} (I : Inv X pins σ H s) (e : H a = some (DicO X.prog X.w a kvs)) (hz : kvs.length < sizeLine) (ry : RelV (kvV k) u) (rv : RelV v r)
    (h : ∀ s', Inv X pins σ (upd H a (DicO X.prog X.w a (putK kvs k v))) s' → Q () s') : wpAny (model X.prog X.w) X.A (dictSet a u r) Q E s := by
  obtain ⟨z, hd, vs, rel, dd⟩ := dz_of I e
  exact wpAny_dictSet_pairs (hsz := by rw [← rel.length]; exact z) (ck_of ry) dd fun h' dd' hs => h _ (dz_put I e hz hd rel rv dd' hs)
end
theorem dz_empty {X : Cx} {H : Hp} (h : Heap) (hb : sysModules < h.objs.size) : ObjOk X.prog X.w H (h.push { cls := .type "dict", data := .dict #[] }) h.objs.size (DicO X.prog X.w h.objs.size []) := by
  have hne : (h.objs.size == sysModules) = false := beq_eq_false_iff_ne.mpr (Nat.ne_of_gt hb)
  exact dz_ok (Nat.zero_le _) hne .nil (Heap.DictOf.new (knd := cK X.prog X.w) h)
end DL

set_option Elab.async false
set_option linter.all false
set_option maxRecDepth 100000
set_option autoImplicit false
set_option maxHeartbeats 2000000
namespace DL
open PySem PySem.Spec L2

/-! ## x[i] of a list, a tuple, a text, a dict -/
def gAt : D2 := fun x y S R => match S.dict x, keyOf y with
  | some kvs, some k => match valG kvs k with
    | some d => R d S
    | none => False
  | _, _ => gIx x y S R
section
variable {X : Cx} {o i e a b : Expr} {da db do' di de : DTE} {pos p : Pos}
theorem snd_at {P : Program} {w : World} {K : PySem.W.Frag} : SndR P w K (fun x y H Q => rAtZ P w x y H Q ∨ rIx K x y H Q) gAt := fun B S σ ts H x y dx dy R Q h hd k => by
  unfold gAt at hd
  split at hd
  · rename_i kvs kk e1 e2
    cases e3 : valG kvs kk with
    | none => rw [e3] at hd; exact hd.elim
    | some d =>
      rw [e3] at hd
      obtain ⟨F, α, h⟩ := h
      obtain ⟨a, ks, rfl, hH, hp⟩ := h.dict h.top2 e1
      obtain ⟨v, hv, hvd⟩ := valG_ok hp e3
      exact .inl ⟨a, ks, kk, v, rfl, hH, key_ok h.top e2, hv, k v d S H hd ((h.sub mem2).add hvd).ok⟩
  · exact .inr (snd_ix B S σ ts H x y dx dy R Q h hd k)
theorem de_at (ha : DE X a da) (hb : DE X b db) (hs : PlainIx b := by exact fun _ _ => rfl) : DE X (.Subscript a b pos) (dOp gAt da db) := by
  obtain ⟨ta, a1, a2⟩ := ha.ex
  obtain ⟨tb, b1, b2⟩ := hb.ex
  exact ⟨_, pe_ix (.or ix_dicZ ix_seq) a1 b1 hs, snd_op a2 b2 snd_at⟩
/-! ### k in d, x in xs -/
def gInA (neg : Bool) : D2 := fun x y S R => match S.dict y, keyOf x with
  | some kvs, some k => R (dB (if neg = true then !(valG kvs k).isSome else (valG kvs k).isSome)) S
  | _, _ => gIn neg x y S R
theorem snd_inA {P : Program} {w : World} {K : PySem.W.Frag} (neg : Bool) : SndR P w K (fun x y H Q => rInZ P w neg x y H Q ∨ (rIn K neg x y H Q ∨ (if neg = true then rNotInD K x y H Q else rInD K x y H Q))) (gInA neg) := fun B S σ ts H x y dx dy R Q h hd k => by
  unfold gInA at hd
  split at hd
  · rename_i kvs kk e1 e2
    obtain ⟨F, α, h⟩ := h
    obtain ⟨a, ks, rfl, hH, hp⟩ := h.dict h.top e1
    refine .inl ⟨a, ks, kk, rfl, hH, key_ok h.top2 e2, ?_⟩
    rw [valG_some hp kk]
    exact k _ _ S H hd ((h.sub mem2).add vbl).ok
  · exact .inr (snd_in neg B S σ ts H x y dx dy R Q h hd k)
theorem od_inA (hu : X.A.units + 65 < cLine) : OpD X (compareOp .In) (gInA false) := ⟨_, .or op_inZ (.or op_in_seq (op_inD hu)), snd_inA false⟩
theorem od_notinA (hu : X.A.units + 65 < cLine) : OpD X (compareOp .NotIn) (gInA true) := ⟨_, .or op_ninZ (.or op_notIn_seq (op_notInD hu)), snd_inA true⟩
/-! ### x[i] = v: a list, a dict -/
def gPut (k : Nat) (i v : DV) (S : DSt) (R : DSt → Prop) : Prop := match S.cell k with
  | some (.lst ds) => match i.int? with
    | some j => match ixN ds.length j with
      | some n => R (S.put k (.lst (ds.set n v)))
      | none => False
    | none => False
  | some (.dic kvs) => match keyOf i with
    | some kk => kvs.length < sizeLine ∧ R (S.put k (.dic (putG kvs kk v)))
    | none => False
  | _ => False
def dPut (dv' dobj dix : DTE) : DTS := fun D S => dv' S fun v S1 => dobj S1 fun o S2 => dix S2 fun i S3 => match o with
  | .cell k => gPut k i v S3 D.nx
  | _ => False
theorem PSet.or' {t t' : TSet} (h : PSet X t) (h' : PSet X t') : PSet X (fun o i v H Q => t o i v H Q ∨ t' o i v H Q) := fun pins s σ H o i v ov iv u Q I ro ri rv q => by
  rcases q with q | q
  · exact h pins s σ H o i v ov iv u Q I ro ri rv q
  · exact h' pins s σ H o i v ov iv u Q I ro ri rv q
theorem snd_gput {P : Program} {w : World} {K : PySem.W.Frag} {B : Bs} {S3 : DSt} {σ : L2.St} {ts : List (V × DV)} {H3 : Hp} {k : Nat} {x y v : V} {dy d : DV} {R : DSt → Prop} {Q : Hp → Prop} {F : Hp} {α : List Addr}
    (z' : StAt P w K B S3 σ ((y, dy) :: (x, .cell k) :: (v, d) :: ts) H3 F α) (z : gPut k dy d S3 R) (q : ∀ S' H', R S' → StOk P w K B S' σ ts H' → Q H') : rSetL x y v H3 Q ∨ rSetZ P w x y v H3 Q := by
  unfold gPut at z
  have hv : VOk P w K F α v d := z'.tm (v, d) (by simp)
  have sb : ∀ p ∈ ts, p ∈ (y, dy) :: (x, DV.cell k) :: (v, d) :: ts := fun p hp => by simp [hp]
  obtain ⟨a', c1, rfl⟩ := z'.top2
  split at z
  · rename_i ds e2
    split at z
    · rename_i j e1
      split at z
      · rename_i n e3
        rw [int?_eq e1] at z'
        obtain ⟨a, g1, g2, xs, g3, g4⟩ := z'.ce k _ (cell_get e2)
        cases c1.symm.trans g1
        exact .inl ⟨_, xs, j, n, rfl, vok_int z'.top, g3, by rw [Paired.length g4]; exact e3, q _ _ z ((z'.cellPut (u := .lst (ds.set n d)) g1 g2 ⟨_, upd_same, Paired.set' hv n g4⟩).sub fun p hp => by simp [hp]).ok⟩
      · exact z.elim
    · exact z.elim
  · rename_i kvs e2
    split at z
    · rename_i kk e1
      obtain ⟨a, g1, g2, xs, g3, g4⟩ := z'.ce k _ (cell_get e2)
      cases c1.symm.trans g1
      have g4' : Paired (KVOk P w K F α) xs kvs := g4
      exact .inr ⟨_, xs, kk, rfl, key_ok z'.top e1, g3, by rw [Paired.length g4]; exact z.1, q _ _ z.2 ((z'.cellPut (u := .dic (putG kvs kk d)) g1 g2 ⟨_, upd_same, putG_ok g4' kk hv⟩).sub sb).ok⟩
    · exact z.elim
  · exact z.elim
theorem ds_put (he : DE X e de) (ho : DE X o do') (hi : DE X i di)
    (hs : swapsWithSole [.Subscript o i p] e pos.line X.env = pure false := by rfl) (hw : swappedStores [.Subscript o i p] e X.env = pure none := by rfl) (h1 : (assignEach [.Subscript o i p] X.env).map (·.2) = [assign (.Subscript o i p) X.env] := by rfl)
    (hg : ∀ v, assign (.Subscript o i p) X.env v = (do let ov ← holding [v] (eval o X.env); let iv ← holding [v, ov] (eval i X.env); standAt p; holding [v, ov, iv] (setItem ov iv v); release [v, ov, iv] []) := by intro _; rfl) :
    DS X (.Assign [.Subscript o i p] e pos) (dPut de do' di) := by
  obtain ⟨t, a1, a2⟩ := he.ex
  obtain ⟨to, o1, o2⟩ := ho.ex
  obtain ⟨ti, i1, i2⟩ := hi.ex
  refine ⟨_, ps_asg a1 (pg_sub o1 i1 (PSet.or' set_list set_dicZ) hg) hs hw h1, fun B S σ ts H D G h hd l => a2 B S σ ts H _ _ h hd fun v d S1 H1 q q' => o2 B S1 σ _ H1 _ _ q' q fun x dx S2 H2 r r' => i2 B S2 σ _ H2 _ _ r' r fun y dy S3 H3 z z' => ?_⟩
  cases dx with
  | cell k =>
    obtain ⟨F, α, z'⟩ := z'
    exact snd_gput z' z fun S' H' q o => l.nx _ _ _ q o
  | imm _ => exact z.elim
  | raw _ => exact z.elim
  | obj _ => exact z.elim
  | scr _ => exact z.elim
/-! ### len -/
def gLenA : DC1 := fun ds S R => match ds with
  | [x] => match S.dict x with
    | some kvs => R (dI kvs.length) S
    | none => gLen [x] S R
  | _ => False
theorem call_lenZ : CallR X (.builtin "len") (fun xs H Q => ∃ a kvs, xs = [.ref a] ∧ H a = some (DicO X.prog X.w a kvs) ∧ Q (.int kvs.length) H) := by
  intro pins s σ H xs us Q I r h
  obtain ⟨a, kvs, rfl, hH, q⟩ := h
  obtain ⟨u, rfl, ru⟩ := vals1 r
  cases (show u = Value.ref a from ru)
  obtain ⟨z, hd, vs, rel, dd⟩ := dz_of I hH
  have hl := rel.length
  have hn := line63
  exact call_len_dict hd dd (by rw [← hl]; rw [sizeLine_eq] at z; omega) ⟨.int kvs.length, H, I.tok _, ⟨_, by rw [hl]⟩, q⟩
theorem cd_lenA : CallD X (.builtin "len") gLenA := by
  obtain ⟨r, l1, l2⟩ := (cd_len (X := X)).ex
  refine ⟨_, .or call_lenZ l1, fun B S σ ts H xs ds R Q hl h hd k => ?_⟩
  match ds, hd with
  | [x], hd =>
    have hd' : match S.dict x with
      | some kvs => R (dI kvs.length) S
      | none => gLen [x] S R := hd
    split at hd'
    · rename_i kvs e
      match xs, hl with
      | [y], _ =>
        obtain ⟨F, α, h⟩ := h
        obtain ⟨a, ks, e2, hH, hp⟩ := h.dict (h.tm (y, x) (by simp)) e
        dsimp only at e2
        subst e2
        exact .inl ⟨a, ks, rfl, hH, by rw [Paired.length hp]; exact k _ _ S H hd' ((h.sub memA).add vint).ok⟩
    · exact .inr (l2 B S σ ts H xs [x] R Q hl h hd' k)
end
end DL

set_option Elab.async false
set_option linter.all false
set_option maxRecDepth 100000
set_option autoImplicit false
set_option maxHeartbeats 2000000
namespace DL
open PySem PySem.Spec L2

/-! ## a dict of int and text keys, seen as a dict of leaves -/
def lfK : Key → Leaf
  | .inl i => .num i
  | .inr x => .text x
def lfs {D : Type} (kvs : List (Key × D)) : List (Leaf × D) := kvs.map fun p => (lfK p.1, p.2)
theorem lfK_inj : ∀ {a b : Key}, lfK a = lfK b → a = b
  | .inl _, .inl _, h => by cases h; rfl
  | .inl _, .inr _, h => by cases h
  | .inr _, .inl _, h => by cases h
  | .inr _, .inr _, h => by cases h; rfl
section
variable {P : Program} {w : World}
theorem lf_is {k : Key} {u : Value} (h : (mixKind P w).is k u = true) : (cK P w).is (lfK k) u = true := by
  rcases keyIs_shape (show keyIs k u = true from h) with ⟨i, t, rfl, rfl⟩ | ⟨x, t, rfl, rfl⟩
  · exact decide_eq_true rfl
  · simp [cK, lfK, ckIs, Value.isStrOf]
theorem lf_hash (k : Key) : (mixKind P w).hash k = (cK P w).hash (lfK k) := by cases k <;> rfl
theorem lf_pairs : ∀ {es : List DictEntry} {vs : List (Key × Value)}, Pairs (mixKind P w) es vs → Pairs (cK P w) es (lfs vs)
  | _, _, .nil => .nil
  | _, _, .cons h1 h2 h3 => .cons (lf_is h1) h2 (lf_pairs h3)
theorem lf_nodup : ∀ {vs : List (Key × Value)}, (vs.map (·.1)).Nodup → ((lfs vs).map (·.1)).Nodup := fun {vs} h => by
  have e : (lfs vs).map (·.1) = (vs.map (·.1)).map lfK := by simp [lfs]
  rw [e]
  generalize vs.map (·.1) = ks at h
  induction h with
  | nil => exact List.nodup_nil
  | @cons k ks hk hn ih =>
    rw [List.map_cons, List.nodup_cons]
    refine ⟨fun m => ?_, ih⟩
    obtain ⟨k', k1, k2⟩ := List.mem_map.mp m
    exact hk k' k1 (lfK_inj k2.symm)
theorem lf_dict {h : Heap} {a : Addr} {vs : List (Key × Value)} (d : h.DictOf (mixKind P w) a vs) : h.DictOf (cK P w) a (lfs vs) := by
  obtain ⟨o, es, ep, ho, hx, hd, hk, hp, hn⟩ := d
  refine ⟨o, es, ep, ho, hx, hd, fun e he => ?_, lf_pairs hp, lf_nodup hn⟩
  obtain ⟨k, k1, k2⟩ := hk e he
  exact ⟨lfK k, lf_is k1, by rw [k2, lf_hash]⟩
theorem lf_kv : ∀ {kvs : List (Key × V)} {vs : List (Key × Value)}, KV kvs vs → KV (lfs kvs) (lfs vs)
  | _, _, .nil => .nil
  | _, _, .cons h t => .cons ⟨congrArg lfK h.1, h.2⟩ (lf_kv t)
end
def tView (P : Program) (w : World) (te : TE) : TE := fun σ H Q => te σ H fun v H1 => ∃ D kvs, v = .ref D ∧ H1 D = some (.dK kvs) ∧ Q v (upd H1 D (DicO P w D (lfs kvs)))
theorem pe_view {X : Cx} {e : Expr} {te : TE} (h : PE X e te) : PE X e (tView X.prog X.w te) := ⟨fun pins s σ H Q I q => by
  refine thn (h.run pins s σ H _ I q) fun u s1 ⟨v, H1, I1, r1, D, kvs, e1, hD, q1⟩ => ?_
  subst e1
  obtain ⟨z, hd, vs, rel, dd⟩ := dk_of I1.hok hD
  have dd' := lf_dict dd
  have he : ∃ o, s1.heap.get? D = some o := let ⟨o, _, _, ho, _⟩ := dd'; ⟨o, ho⟩
  have I2 : Inv X pins σ (upd H1 D (DicO X.prog X.w D (lfs kvs))) { s1 with heap := s1.heap, toks := s1.toks } :=
    I1.write (x := D) (e := D) (by rw [hD]; exact True.intro) (.inl rfl) (fun _ _ _ q => q) he (dz_ok (by simpa [lfs] using z) hd (lf_kv rel) dd')
  exact ⟨_, _, I2, r1, q1⟩⟩

/-! ## {k: v for x in xs} -/
def intKey : DV → Option Key
  | .imm (.int i) => some (.inl i)
  | .imm (.str x) => some (.inr x)
  | _ => none
def dDcP (di : DTI) (dg : DTG) (dt : DTT) (dk dv : DTE) (vs : List Nat) (S : DSt) (R : List (Leaf × DV) → DSt → Prop) : Prop := di S fun ys St S1 => ∃ I : Nat → List (Leaf × DV) → List (Option DO) → Prop, I 0 [] S1.μ ∧ (∀ i acc μ, i ≤ ys.length → I i acc μ → St ⟨wipeD S1.ρ vs, μ⟩) ∧
  (∀ i y acc μ, ys[i]? = some y → I i acc μ → dg y ⟨wipeD S1.ρ vs, μ⟩ fun S3 => dt S3 fun b S4 => if b = true then dk S4 fun kd S5 => dv S5 fun d S6 => match intKey kd with
    | some k => I (i + 1) (putG acc (lfK k) d) S6.μ
    | none => False else I (i + 1) acc S4.μ) ∧ ys.length < sizeLine ∧ ∀ acc μ, I ys.length acc μ → R acc ⟨S1.ρ, μ⟩
/-- the new dict becomes a cell -/
def dDcC (di : DTI) (dg : DTG) (dt : DTT) (dk dv : DTE) (vs : List Nat) : DTE := fun S R => dDcP di dg dt dk dv vs S fun acc S1 => R (.cell S1.μ.length) (S1.new (.dic acc))
section
variable {P : Program} {w : World} {K : PySem.W.Frag} {B : Bs} {S S' : DSt} {σ : L2.St} {ts : List (V × DV)} {H F F' : Hp} {α : List Addr} {v : V} {d : DV} {wi : TI} {di : DTI} {g : TG} {dg : DTG} {js : List Nat}
theorem intKey_ok (hv : VOk P w K F α v d) {k : Key} (e : intKey d = some k) : v = kV k := by
  cases d with
  | imm d => cases hv <;> first | (cases e; rfl) | (exact absurd e (by simp [intKey]))
  | _ => cases e
/-- what is known of a dict that is being made -/
def DcK (kvs : List (Key × V)) (es : List (Leaf × DV)) : List (V × DV) := (kvs.map (·.2)).zip (es.map (·.2))
theorem dcK_paired : ∀ {kvs : List (Key × V)} {es : List (Leaf × DV)}, kvs.map (fun p => lfK p.1) = es.map (·.1) → (∀ p ∈ DcK kvs es, VOk P w K F α p.1 p.2) → Paired (KVOk P w K F α) (lfs kvs) es
  | [], [], _, _ => .nil
  | [], _ :: _, h, _ => by simp at h
  | _ :: _, [], h, _ => by simp at h
  | p :: kvs, q :: es, h, hp => by
    simp only [List.map_cons, List.cons.injEq] at h
    exact .cons ⟨h.1, hp (p.2, q.2) (by simp [DcK])⟩ (dcK_paired h.2 fun z hz => hp z (by simp only [DcK, List.map_cons, List.zip_cons_cons, List.mem_cons]; exact .inr hz))
theorem lfs_put (kvs : List (Key × V)) (k : Key) (v : V) : lfs (putK kvs k v) = putK (lfs kvs) (lfK k) v := by
  have ha : (kvs.any fun p => decide (p.1 = k)) = ((lfs kvs).any fun p => decide (p.1 = lfK k)) := by
    unfold lfs
    rw [List.any_map]
    congr 1
    funext p
    by_cases c : p.1 = k
    · simp [c]
    · have : ¬ lfK p.1 = lfK k := fun z => c (lfK_inj z)
      simp [c, this]
  unfold putK
  rw [ha]
  split
  · unfold lfs
    rw [List.map_map, List.map_map]
    apply List.map_congr_left
    intro p _
    by_cases c : p.1 = k
    · simp [c]
    · have : ¬ lfK p.1 = lfK k := fun z => c (lfK_inj z)
      simp [c, this]
  · simp [lfs]
theorem mem_dcK : ∀ {kvs : List (Key × V)} {es : List (Leaf × DV)}, kvs.map (fun p => lfK p.1) = es.map (·.1) → Paired (KVOk P w K F α) (lfs kvs) es → ∀ p ∈ DcK kvs es, VOk P w K F α p.1 p.2
  | [], _, _, _, p, hp => by simp [DcK] at hp
  | _ :: _, [], _, _, p, hp => by simp [DcK] at hp
  | a :: kvs, b :: es, h, .cons h1 t, p, hp => by
    simp only [List.map_cons, List.cons.injEq] at h
    simp only [DcK, List.map_cons, List.zip_cons_cons, List.mem_cons] at hp
    rcases hp with e | hp
    · subst e; exact h1.2
    · exact mem_dcK h.2 t p hp
theorem lfs_keys (kvs : List (Key × V)) : (lfs kvs).map (·.1) = kvs.map (fun p => lfK p.1) := by simp [lfs]
theorem pair_keys : ∀ {ks : List (Leaf × V)} {es : List (Leaf × DV)}, Paired (KVOk P w K F α) ks es → ks.map (·.1) = es.map (·.1)
  | _, _, .nil => rfl
  | _, _, .cons h t => by rw [List.map_cons, List.map_cons, h.1, pair_keys t]
theorem snd_dcP {tt : TT} {dt : DTT} {tk tv : TE} {dk dv : DTE} {vs : List Nat} (hi : SndI P w K wi di) (hg : SndG P w K js g dg) (ht : SndT P w K tt dt) (hk : SndE P w K tk dk) (he : SndE P w K tv dv) (hj : ∀ j ∈ js, j ∈ vs) :
    ∀ (B : Bs) (S : DSt) (σ : L2.St) (ts : List (V × DV)) (H : Hp) (R : List (Leaf × DV) → DSt → Prop) (Q : VK), StOk P w K B S σ ts H → dDcP di dg dt dk dv vs S R →
    (∀ (D : Addr) kvs es S' H' F α, R es S' → StAt P w K B S' σ ts H' F α → H' D = some (.dK kvs) → F D = none → D ∉ α → B.H D = none → Paired (KVOk P w K F α) (lfs kvs) es → Q (.ref D) H') → tDc wi g tt tk tv vs σ H Q := fun B S σ ts H R Q h hd k =>
  hi B S σ ts H _ _ h hd fun ys St S1 H1 J Gp Y us hr o wk hG hY => by
    obtain ⟨I, h0, hst, hs, hz, hdn⟩ := hr
    obtain ⟨F1, α1, o1⟩ := o
    intro D hD
    have b1 := o1.base
    have hF1 : F1 D = none := o1.freeF hD
    have hα1 : D ∉ α1 := fun q => o1.an D q hD
    let ρw := wipeD S1.ρ vs
    let B1 : Bs := ⟨F1, H1, α1⟩
    let Pv : Nat → Hp → Prop := fun i H2 => ∃ kvs es μ F α, I i es μ ∧ kvs.map (fun p => lfK p.1) = es.map (·.1) ∧ kvs.length ≤ i ∧ StAt P w K B1 ⟨ρw, μ⟩ (wipe σ vs) (DcK kvs es ++ (us ++ ts)) H2 F α ∧ H2 D = some (.dK kvs) ∧ F D = none ∧ D ∉ α
    have p0 : Pv 0 (upd H1 D (.dK [])) := ⟨[], [], S1.μ, F1, α1, h0, rfl, Nat.le_refl _, ((b1.wipe vs).free hα1 hF1 hD), upd_same, hF1, hα1⟩
    refine ⟨fun i m H => m = ys.length - i ∧ i ≤ ys.length ∧ Pv i H, ⟨ys.length, by simp, Nat.zero_le _, p0⟩, ?_⟩
    rintro i m H2 ⟨rfl, hi', kvs, es, μ, F, α, q, hl, hli, o2, hD2, hF2, hα2⟩
    have gG : Gp H2 := hG B1 _ (wipe σ vs) H2 _ (fun p hp => List.mem_append_right _ (List.mem_append_left _ hp)) (hst i es μ hi' q) o2.ok
    by_cases hlt : i < ys.length
    · refine .inr ⟨wk.goes i H2 hlt gG, Pv (i + 1), fun H' p' => ⟨_, by omega, rfl, hlt, p'⟩, fun x H3 y => ?_⟩
      have y := wk.yields i H2 x H3 hlt gG y
      have b2 := o2.base
      obtain ⟨yy, e1, sy⟩ := hY ⟨F, H2, α⟩ i ⟨ρw, μ⟩ (wipe σ vs) H2 x H3 _ hlt (fun p hp => List.mem_append_right _ (List.mem_append_left _ hp)) (hst i es μ hi' q) b2.ok y
      refine hg _ _ _ _ H3 x yy _ _ sy (hs i yy es μ e1 q) fun S3 σ3 H4 q3 _ hw o3 => ⟨?_, ?_⟩
      · rw [hw vs hj, wipe_wipe σ vs vs fun _ z => z]
      · refine ht _ S3 σ3 _ H4 _ _ o3 q3 fun b S4 H5 q4 o4 => ?_
        cases b with
        | false =>
          obtain ⟨F5, α5, o5⟩ := o4
          obtain ⟨d1, d2, d3⟩ := o5.bc D _ hD2 hF2 hα2
          have o6 := o2.rebase o5
          refine ⟨kvs, es, S4.μ, F5, α5, q4, hl, Nat.le_succ_of_le hli, o6.slots (o2.len) (fun j e r => ?_), d1, d2, d3⟩
          obtain ⟨v, g1, g2⟩ := o2.sl j e r
          exact ⟨v, g1, o5.known g2⟩
        | true =>
          refine hk _ S4 σ3 _ H5 _ _ o4 q4 fun ky kd S5 H6 q5 o5 => ?_
          refine he _ S5 σ3 _ H6 _ _ o5 q5 fun y' d' S6 H7 q6 o6 => ?_
          obtain ⟨F7, α7, o7⟩ := o6
          obtain ⟨d1, d2, d3⟩ := o7.bc D _ hD2 hF2 hα2
          have o8 := o2.rebase o7
          cases e5 : intKey kd with
          | none => rw [e5] at q6; exact q6.elim
          | some kk =>
            rw [e5] at q6
            refine ⟨kvs, kk, intKey_ok o7.top2 e5, d1, by omega, ?_⟩
            have hp0 : Paired (KVOk P w K F7 α7) (lfs kvs) es := dcK_paired hl fun p hp => o7.tm p (List.mem_cons_of_mem _ (List.mem_cons_of_mem _ (List.mem_append_left _ hp)))
            have hp1 : Paired (KVOk P w K F7 α7) (lfs (putK kvs kk y')) (putG es (lfK kk) d') := by
              rw [lfs_put]; exact putG_ok hp0 _ o7.top
            have hkeys : (putK kvs kk y').map (fun p => lfK p.1) = (putG es (lfK kk) d').map (·.1) := by
              rw [← lfs_keys]; exact pair_keys hp1
            have hlen := length_putK kvs kk y'
            have o9 : StAt P w K B1 ⟨ρw, S6.μ⟩ (wipe σ vs) _ H7 F7 α7 := o8.slots (o2.len) fun j e r => by
              obtain ⟨v, g1, g2⟩ := o2.sl j e r
              exact ⟨v, g1, o7.known g2⟩
            refine ⟨putK kvs kk y', putG es (lfK kk) d', S6.μ, F7, α7, q6, hkeys, by omega, ?_, upd_same, d2, d3⟩
            have o10 := o9.free (o := .dK (putK kvs kk y')) d3 d2 hD
            refine { o10 with tm := fun z hz' => ?_ }
            rcases List.mem_append.mp hz' with hz' | hz'
            · exact mem_dcK hkeys hp1 z hz'
            · exact o9.tm z (List.mem_cons_of_mem _ (List.mem_cons_of_mem _ (List.mem_append_right _ hz')))
    · have e : i = ys.length := by omega
      subst e
      refine .inl ⟨wk.stops H2 gG, ?_⟩
      have hp : Paired (KVOk P w K F α) (lfs kvs) es := dcK_paired hl fun p hp => o2.tm p (List.mem_append_left _ hp)
      have o3 : StAt P w K B1 ⟨S1.ρ, μ⟩ σ (us ++ ts) H2 F α := (o2.sub fun p hp => List.mem_append_right _ hp).slots o1.len fun j e r => by
        obtain ⟨v, g1, g2⟩ := o1.sl j e r
        exact ⟨v, g1, o2.known g2⟩
      have o4 := o1.rebase o3
      exact k D kvs es _ H2 F α (hdn es μ q) (o4.sub fun p hp => List.mem_append_right _ hp) hD2 hF2 hα2 (o1.freshB hD) hp
theorem snd_dcC {tt : TT} {dt : DTT} {tk tv : TE} {dk dv : DTE} {vs : List Nat} (hi : SndI P w K wi di) (hg : SndG P w K js g dg) (ht : SndT P w K tt dt) (hk : SndE P w K tk dk) (he : SndE P w K tv dv) (hj : ∀ j ∈ js, j ∈ vs) :
    SndE P w K (tView P w (tDc wi g tt tk tv vs)) (dDcC di dg dt dk dv vs) := fun B S σ ts H R Q h hd k =>
  snd_dcP hi hg ht hk he hj B S σ ts H _ _ h hd fun D kvs es S' H' F α r o hD hF hα hB hp => by
    refine ⟨D, kvs, rfl, hD, ?_⟩
    have o1 := o.free (o := DicO P w D (lfs kvs)) hα hF hB
    have o2 := o1.adopt (o := .dic es) hα hF (by rw [upd_same]; exact fun z => by cases z) hB ⟨_, upd_same, paired_up (fun _ _ q => ⟨q.1, q.2.up (Ex.refl _)⟩) hp⟩
    exact k _ _ _ _ r (o2.add (d := .cell S'.μ.length) ⟨D, by rw [← o.al, List.getElem?_append_right (Nat.le_refl _), Nat.sub_self]; rfl, rfl⟩).ok
end
end DL

set_option Elab.async false
set_option linter.all false
set_option maxRecDepth 100000
set_option autoImplicit false
set_option maxHeartbeats 2000000
namespace DL
open PySem PySem.Spec L2

section
variable {X : Cx} {dg : DTG} {dt : DTT} {dk dv : DTE} {js : List Nat}
/-- d = {k: v for ..}: the dict is stored first, then the block goes -/
theorem ps_setDc {i : Nat} {y : Str} {py : Pos} {ke ve tg iter : Expr} {ifs : List Expr} {scope : Scope} {own : List (Str × Nat)} {pos spos : Pos} {wi : TI} {g : TG} {tt : TT} {tk tv : TE} (hc : X.calm = true) (hN : X.N.Nodup) (hy : X.N[i]? = some y) (hyl : X.env.scope.names.lookup y = some .local)
    (hsw : swapsWith (.DictComp ke ve [⟨tg, iter, ifs, 0⟩] scope pos) (some (.Name y py)) spos.line X.env = pure true) (hi : PI X tg iter wi) (ok : BlkOk X.N X.env.scope scope own)
    (blk : ∀ (s : Shared) (H : Hp) (C : Addr) (cl : List (Str × Addr)) (fp : List Addr), PG (X.blk s H scope (compEnvC scope cl C X.env) fp) tg g ∧ PTs (X.blk s H scope (compEnvC scope cl C X.env) fp) ifs tt ∧ PE (X.blk s H scope (compEnvC scope cl C X.env) fp) ke tk ∧ PE (X.blk s H scope (compEnvC scope cl C X.env) fp) ve tv)
    (hs : ∀ x, foldedSetIterable iter X.env x = pure x) : PS X (.Assign [.Name y py] (.DictComp ke ve [⟨tg, iter, ifs, 0⟩] scope pos) spos) (tAsg (tView X.prog X.w (tDc wi g tt tk tv (own.map (·.2)))) (gName i)) := ⟨fun pins s σ H D I h => by
  have use : tDc wi g tt tk tv (own.map (·.2)) σ H fun v H1 => ∃ a kvs, v = .ref a ∧ H1 a = some (.dK kvs) ∧ gName i v σ (upd H1 a (DicO X.prog X.w a (lfs kvs))) D.nx := h
  rw [exec_Assign_Name_used _ _ _ _ hsw]
  refine wpAny_bind (wpAny_standAt (wpAny_bind (wpAny_bind ?_)))
  refine thn (dc_core (use := some (assign (.Name y py) X.env)) (Qf := fun _ z => SP X pins D .next z) hc hN I hi ok (fun s H C cl fp => (blk s H C cl fp).1) (fun s H C cl fp => (blk s H C cl fp).2.1) (fun s H C cl fp => (blk s H C cl fp).2.2.1) (fun s H C cl fp => (blk s H C cl fp).2.2.2) hs use ?_) fun _ _ z => wpAny_pure (wpAny_pure z)
  intro L C z1 m G J ⟨a, kvs, ea, hG, nx⟩ ns fp
  cases ea
  obtain ⟨p0, p1, p2, p3, p4, p5⟩ := fp
  refine wpAny_assign_Name (store_ok2 (v := V.ref L) J hN hy (.inl hyl) rfl (fun z2 J2 ⟨b, same, hb⟩ => ?_) (.inr hyl))
  have off : C ≠ b := by
    intro e
    rcases hb with w1 | w1
    · exact p1 (e.trans w1)
    · exact p4 y b w1 e.symm
  refine ⟨m, ns.sameBut same off, fun h3 same3 => ?_⟩
  have J3 := J2.turned (t' := z2.toks) (h' := h3) (fun b o hb e => (same3.2 b hb).trans e) p0 p1 p3 p4 p5
  obtain ⟨z, hd, vs, rel, dd⟩ := dk_of J3.hok hG
  have dd' := lf_dict dd
  have he : ∃ o, h3.get? L = some o := let ⟨o, _, _, ho, _⟩ := dd'; ⟨o, ho⟩
  exact ⟨_, _, J3.write (t' := z2.toks) (h' := h3) (x := L) (e := L) (by rw [hG]; exact True.intro) (.inl rfl) (fun _ _ _ q => q) he (dz_ok (by simpa [lfs] using z) hd (lf_kv rel) dd'), nx⟩⟩
theorem de_dcC {own : List (Str × Nat)} {ke ve tg iter : Expr} {ifs : List Expr} {scope : Scope} {pos : Pos} {di : DTI} (hc : X.calm = true) (hN : X.N.Nodup) (hi : DI X tg iter di) (ok : BlkOk X.N X.env.scope scope own)
    (blk : ∀ (s : Shared) (H : Hp) (C : Addr) (cl : List (Str × Addr)) (fp : List Addr), DG (blkX X scope s H C cl fp) tg js dg ∧ DTs (blkX X scope s H C cl fp) ifs dt ∧ DE (blkX X scope s H C cl fp) ke dk ∧ DE (blkX X scope s H C cl fp) ve dv)
    (hj : ∀ j ∈ js, j ∈ own.map (·.2)) (hs : ∀ x, foldedSetIterable iter X.env x = pure x := by intro _; rfl) : DE X (.DictComp ke ve [⟨tg, iter, ifs, 0⟩] scope pos) (dDcC di dg dt dk dv (own.map (·.2))) := by
  obtain ⟨wi, a1, a2⟩ := hi.ex
  have b := blk
  exact ⟨_, pe_view (pe_dc (g := canG X.prog X.w X.K js dg) (tt := canT X.prog X.w X.K dt) (tk := canE X.prog X.w X.K dk) (tv := canE X.prog X.w X.K dv) hc hN a1 ok (fun s H C cl fp => (b s H C cl fp).1.can) (fun s H C cl fp => (b s H C cl fp).2.1.can) (fun s H C cl fp => (b s H C cl fp).2.2.1.can) (fun s H C cl fp => (b s H C cl fp).2.2.2.can) hs), snd_dcC a2 (snd_canG js dg) (snd_canT dt) (snd_canE dk) (snd_canE dv) hj⟩
theorem ds_setDcC {i : Nat} {y : Str} {py : Pos} {own : List (Str × Nat)} {ke ve tg iter : Expr} {ifs : List Expr} {scope : Scope} {pos spos : Pos} {di : DTI} (hc : X.calm = true) (hN : X.N.Nodup) (hy : X.N[i]? = some y) (hyl : X.env.scope.names.lookup y = some .local)
    (hsw : swapsWith (.DictComp ke ve [⟨tg, iter, ifs, 0⟩] scope pos) (some (.Name y py)) spos.line X.env = pure true) (hi : DI X tg iter di) (ok : BlkOk X.N X.env.scope scope own)
    (blk : ∀ (s : Shared) (H : Hp) (C : Addr) (cl : List (Str × Addr)) (fp : List Addr), DG (blkX X scope s H C cl fp) tg js dg ∧ DTs (blkX X scope s H C cl fp) ifs dt ∧ DE (blkX X scope s H C cl fp) ke dk ∧ DE (blkX X scope s H C cl fp) ve dv)
    (hj : ∀ j ∈ js, j ∈ own.map (·.2)) (hs : ∀ x, foldedSetIterable iter X.env x = pure x := by intro _; rfl) : DS X (.Assign [.Name y py] (.DictComp ke ve [⟨tg, iter, ifs, 0⟩] scope pos) spos) (dAsg (dDcC di dg dt dk dv (own.map (·.2))) (dgName i)) := by
  obtain ⟨wi, a1, a2⟩ := hi.ex
  have b := blk
  refine ⟨_, ps_setDc (g := canG X.prog X.w X.K js dg) (tt := canT X.prog X.w X.K dt) (tk := canE X.prog X.w X.K dk) (tv := canE X.prog X.w X.K dv) hc hN hy hyl hsw a1 ok (fun s H C cl fp => ⟨(b s H C cl fp).1.can, (b s H C cl fp).2.1.can, (b s H C cl fp).2.2.1.can, (b s H C cl fp).2.2.2.can⟩) hs, fun B S σ ts H D G h hd l => ?_⟩
  refine snd_dcC a2 (snd_canG js dg) (snd_canT dt) (snd_canE dk) (snd_canE dv) hj B S σ ts H _ _ h hd fun v d S1 H1 q o => ?_
  obtain ⟨F, α, o⟩ := o
  exact l.nx _ _ H1 q ((o.setSlot o.top).sub mem1).ok
end

/-! ## a state is known less, or a cell is frozen -/
/-- what is known under d, S is known under d', S' -/
def Wk (P : Program) (w : World) (K : PySem.W.Frag) (d : DV) (S : DSt) (d' : DV) (S' : DSt) : Prop :=
  ∀ (B : Bs) (σ : L2.St) (ts : List (V × DV)) (H : Hp) (v : V) (F : Hp) (α : List Addr), StAt P w K B S σ ts H F α → VOk P w K F α v d → ∃ F', StAt P w K B S' σ ts H F' α ∧ VOk P w K F' α v d' ∧ Ex F F'
section
variable {P : Program} {w : World} {K : PySem.W.Frag} {S S' S'' : DSt} {d d' d'' : DV}
theorem Wk.refl : Wk P w K d S d S := fun _ _ _ _ _ F _ h hv => ⟨F, h, hv, Ex.refl F⟩
theorem Wk.trans (a : Wk P w K d S d' S') (b : Wk P w K d' S' d'' S'') : Wk P w K d S d'' S'' := fun B σ ts H v F α h hv => by
  obtain ⟨F1, h1, v1, e1⟩ := a B σ ts H v F α h hv
  obtain ⟨F2, h2, v2, e2⟩ := b B σ ts H v F1 α h1 v1
  exact ⟨F2, h2, v2, e1.trans e2⟩
/-- the names and the cells that are not asked for any more go -/
theorem Wk.drop {ρ : List (Option DV)} {μ : List (Option DO)} (hl : ρ.length = S.ρ.length) (hm : μ.length = S.μ.length) (h1 : ∀ (i : Nat) (e : DV), ρ[i]? = some (some e) → S.ρ[i]? = some (some e)) (h2 : ∀ (i : Nat) (e : DO), μ[i]? = some (some e) → S.μ[i]? = some (some e)) : Wk P w K d S d ⟨ρ, μ⟩ := fun B σ ts H v F α h hv =>
  ⟨F, ⟨h.fh, h.bh, h.bf, h.bc, h.bp, h.bn, h.nd, h.al.trans hm.symm, h.an, hl.trans h.len, fun i e q => h.sl i e (h1 i e q), h.tm, fun i e q => h.ce i e (h2 i e q)⟩, hv, Ex.refl F⟩
theorem pairedR {A C E : Type} {r : A → C → Prop} {r' : A → E → Prop} {f : C → E} : ∀ {xs : List A} {ds : List C}, Paired r xs ds → (∀ v d, r v d → r' v (f d)) → Paired r' xs (ds.map f)
  | _, _, .nil, _ => .nil
  | _, _, .cons h t, g => .cons (g _ _ h) (pairedR t g)
/-- one cell is frozen: the cells of S' may name the data in its place -/
def frzC (k : Nat) (p : PyData) : DV → DV
  | .cell j => if j = k then .imm p else .cell j
  | d => d
def frzO (k : Nat) (p : PyData) : DO → DO
  | .lst ds => .lst (ds.map (frzC k p))
  | .dic kvs => .dic (kvs.map fun q => (q.1, frzC k p q.2))
  | .ins C fs => .ins C (fs.map fun q => (q.1, frzC k p q.2))
  | .ho φ => .ho φ
  | .lck ob kvs => .lck ob (kvs.map fun q => (q.1, frzC k p q.2))
  | .tdk kvs => .tdk (kvs.map fun q => (q.1, frzC k p q.2))
def _root_.DL.DSt.frz1 (S : DSt) (k : Nat) (p : PyData) : DSt := ⟨S.ρ.map (Option.map (frzC k p)), (S.μ.set k none).map (Option.map (frzO k p))⟩
theorem frz_at {B : Bs} {σ : L2.St} {ts : List (V × DV)} {H F : Hp} {α : List Addr} {k : Nat} {a : Addr} {o : HO} {p : PyData} (h : StAt P w K B S σ ts H F α) (ha : α[k]? = some a) (hF : F a = none) (hH : H a = some o)
    (hp : Rp P w K (upd F a o) (.ref a) p) : StAt P w K B (S.frz1 k p) σ ts H (upd F a o) α ∧ (∀ v d, VOk P w K F α v d → VOk P w K (upd F a o) α v (frzC k p d)) ∧ Ex F (upd F a o) := by
  have e : Ex F (upd F a o) := Ex.new hF
  have am : a ∈ α := List.mem_of_getElem? ha
  have vk : ∀ v d, VOk P w K F α v d → VOk P w K (upd F a o) α v (frzC k p d) := fun v d hv => by
    cases d with
    | cell j =>
      obtain ⟨b, b1, b2⟩ := hv
      show VOk P w K (upd F a o) α v (if j = k then .imm p else .cell j)
      by_cases c : j = k
      · rw [if_pos c]
        rw [c, ha] at b1
        cases b1
        rw [b2]
        exact hp
      · rw [if_neg c]; exact ⟨b, b1, b2⟩
    | imm _ => exact VOk.up0 e hv
    | raw _ => exact VOk.up0 e hv
    | obj _ => exact VOk.up0 e hv
    | scr _ => exact VOk.up0 e hv
  refine ⟨⟨fun b u q => ?_, h.bh, h.bf.trans e, fun b u q1 q2 q3 => ?_, h.bp, h.bn, h.nd, ?_, h.an, ?_, fun i d q => ?_, fun q hq => (h.tm q hq).up0 e, fun j u q => ?_⟩, vk, e⟩
  · by_cases c : b = a
    · subst c; rw [upd_same] at q; cases q; exact hH
    · rw [upd_ne c] at q; exact h.fh b u q
  · obtain ⟨h1, h2, h3⟩ := h.bc b u q1 q2 q3
    have c : b ≠ a := fun z => h3 (z ▸ am)
    exact ⟨h1, by rw [upd_ne c]; exact h2, h3⟩
  · unfold DSt.frz1; rw [List.length_map, List.length_set]; exact h.al
  · unfold DSt.frz1; rw [List.length_map]; exact h.len
  · unfold DSt.frz1 at q; rw [List.getElem?_map] at q
    cases q2 : S.ρ[i]? with
    | none => rw [q2] at q; cases q
    | some u =>
      rw [q2] at q
      cases u with
      | none => cases q
      | some d0 =>
        cases q
        obtain ⟨v, h1, h2⟩ := h.sl i d0 q2
        exact ⟨v, h1, vk v d0 h2⟩
  · unfold DSt.frz1 at q; rw [List.getElem?_map] at q
    by_cases c : k = j
    · subst c
      rw [List.getElem?_set_self (by rw [← h.al]; exact (List.getElem?_eq_some_iff.mp ha).1)] at q
      cases q
    · rw [List.getElem?_set_ne c] at q
      cases q2 : S.μ[j]? with
      | none => rw [q2] at q; cases q
      | some u0 =>
        rw [q2] at q
        cases u0 with
        | none => cases q
        | some u1 =>
          cases q
          obtain ⟨b, h1, h2, h3⟩ := h.ce j u1 q2
          have cb : b ≠ a := fun z => by
            subst z
            have i1 := List.getElem?_eq_some_iff.mp ha
            have i2 := List.getElem?_eq_some_iff.mp h1
            exact c ((List.getElem_inj h.nd).mp (i1.2.trans i2.2.symm))
          refine ⟨b, h1, by rw [upd_ne cb]; exact h2, ?_⟩
          cases u1 with
          | lst ds =>
            obtain ⟨xs, x1, x2⟩ := h3
            exact ⟨xs, x1, pairedR x2 (fun v d => vk v d)⟩
          | dic kvs =>
            obtain ⟨xs, x1, x2⟩ := h3
            exact ⟨xs, x1, pairedR x2 (fun v d q => ⟨q.1, vk _ _ q.2⟩)⟩
          | ins C fs =>
            obtain ⟨dx, xs, x1, x2⟩ := h3
            exact ⟨dx, xs, x1, pairedR x2 (fun v d q => ⟨q.1, vk _ _ q.2⟩)⟩
          | ho φ => exact h3
          | lck ob kvs =>
            obtain ⟨xs, x1, x2⟩ := h3
            exact ⟨xs, x1, pairedR x2 (fun v d q => ⟨q.1, vk _ _ q.2⟩)⟩
          | tdk kvs =>
            obtain ⟨xs, x1, x2⟩ := h3
            exact ⟨xs, x1, pairedR x2 (fun v d q => ⟨q.1, q.2.1.up e, vk _ _ q.2.2⟩)⟩
theorem Wk.frzL {k : Nat} {ds : List DV} {ps : List PyData} (e : S.cell k = some (.lst ds)) (ei : allImm ds = some ps) : Wk P w K d S (frzC k (.list ps) d) (S.frz1 k (.list ps)) := fun B σ ts H v F α h hv => by
  obtain ⟨a, g1, g2, xs, g3, g4⟩ := h.ce k _ (cell_get e)
  obtain ⟨q1, q2, q3⟩ := frz_at h g1 g2 g3 (.lst upd_same ((imms ei g4).up (Ex.new g2)))
  exact ⟨_, q1, q2 v d hv, q3⟩
def allImmK : List (Leaf × DV) → Option (List (Leaf × PyData))
  | [] => some []
  | (k, .imm d) :: r => (allImmK r).map ((k, d) :: ·)
  | _ :: _ => none
theorem allImmK_map (kvs : List (Leaf × PyData)) : allImmK (kvs.map fun p => (p.1, .imm p.2)) = some kvs := by
  induction kvs with
  | nil => rfl
  | cons p r ih => show (allImmK (r.map _)).map _ = _; rw [ih]; rfl
theorem immsK {F : Hp} {α : List Addr} : ∀ {es : List (Leaf × DV)} {ps : List (Leaf × PyData)} {ks : List (Leaf × V)}, allImmK es = some ps → Paired (KVOk P w K F α) ks es → ps.map (fun p => kvD p.1) = ks.map (fun p => kvD p.1) ∧ RpAll P w K F (ks.map (·.2)) (ps.map (·.2))
  | [], _, _, e, .nil => by cases e; exact ⟨rfl, .nil⟩
  | (k, d) :: r, ps, _, e, .cons h t => by
    cases d with
    | imm d =>
      have e' : (allImmK r).map ((k, d) :: ·) = some ps := e
      cases q : allImmK r with
      | none => rw [q] at e'; cases e'
      | some l =>
        rw [q] at e'
        cases e'
        obtain ⟨i1, i2⟩ := immsK q t
        exact ⟨by rw [List.map_cons, List.map_cons, i1, h.1], .cons h.2 i2⟩
    | _ => cases e
theorem Wk.frzD {k : Nat} {es : List (Leaf × DV)} {ps : List (Leaf × PyData)} (e : S.cell k = some (.dic es)) (ei : allImmK es = some ps) : Wk P w K d S (frzC k (.dict (ps.map fun p => (kvD p.1, p.2))) d) (S.frz1 k (.dict (ps.map fun p => (kvD p.1, p.2)))) := fun B σ ts H v F α h hv => by
  obtain ⟨a, g1, g2, xs, g3, g4⟩ := h.ce k _ (cell_get e)
  obtain ⟨i1, i2⟩ := immsK ei (show Paired (KVOk P w K F α) xs es from g4)
  obtain ⟨q1, q2, q3⟩ := frz_at h g1 g2 g3 (.dic (ps := ps.map fun p => (kvD p.1, p.2)) upd_same (by rw [List.map_map]; exact i1) (by rw [List.map_map]; exact RpAll.up (Ex.new g2) i2))
  exact ⟨_, q1, q2 v d hv, q3⟩
def dRetW (P : Program) (w : World) (K : PySem.W.Frag) (de : DTE) : DTS := fun D S => de S fun d S1 => ∃ d' S', Wk P w K d S1 d' S' ∧ D.rt d' S'
def dPost (P : Program) (w : World) (K : PySem.W.Frag) (ds : DTS) : DTS := fun D S => ds { D with nx := fun S1 => ∃ d' S', Wk P w K dN S1 d' S' ∧ D.nx S' } S
end
section
variable {X : Cx} {st : Stmt} {e : Expr} {de : DTE} {ds : DTS} {pos : Pos}
theorem ds_retW (he : DE X e de) : DS X (.Return (some e) pos) (dRetW X.prog X.w X.K de) := by
  obtain ⟨t, a1, a2⟩ := he.ex
  refine ⟨_, ps_ret a1, fun B S σ ts H D G h hd l => a2 B S σ ts H _ _ h hd fun v d S1 H1 q o => ?_⟩
  obtain ⟨d', S', hw, q⟩ := q
  obtain ⟨F, α, o⟩ := o
  obtain ⟨F', o', v', ex⟩ := hw B σ ts H1 v F α (o.sub mem1) o.top
  exact l.rt v d' S' σ H1 q (o'.add v').ok
theorem ds_post (h : DS X st ds) : DS X st (dPost X.prog X.w X.K ds) := by
  obtain ⟨t, a1, a2⟩ := h.ex
  refine ⟨t, a1, fun B S σ ts H D G h hd l => a2 B S σ ts H _ G h hd ⟨fun S1 σ1 H1 q o => ?_, l.rt, l.bk, l.ct⟩⟩
  obtain ⟨d', S', hw, q⟩ := q
  obtain ⟨F, α, o⟩ := o
  obtain ⟨F', o', _, ex⟩ := hw B σ1 ts H1 .non F α o vnon
  exact l.nx S' σ1 H1 q o'.ok
end
end DL

set_option Elab.async false
set_option linter.all false
set_option maxRecDepth 100000
set_option autoImplicit false
set_option maxHeartbeats 2000000
namespace DL
open PySem PySem.Spec L2

/-! ## the law's own call: the caller has no guards -/
section
variable {P : Program} {w : World} {K : PySem.W.Frag} {mg mb : Str → Option Value} {s₁ : Shared} {a : Addr} {vs : List Value} {ns : List Int}
/-- what is known at the call -/
structure AtLaw (K : PySem.W.Frag) (mg mb : Str → Option Value) (s₁ : Shared) (a : Addr) (vs : List Value) (ns : List Int) : Prop where
  kin : K.In s₁.heap
  glob : s₁.heap.Ns mainGlobals mg
  blt : s₁.heap.Ns builtinsNs mb
  boot : ∀ x : Str, x ≠ "__name__" → mb x = bootBuiltins x
  lim : s₁.heap.NoLimit
  gens : s₁.gens = #[]
  obj : s₁.heap.get? a = some { cls := .type "list", data := .seq vs.toArray }
  nums : PyProof.Rows.IntsAre vs ns
  len : ns.length ≤ sizeLine
/-- the one object that may be tracked: the script -/
def scrH (K : PySem.W.Frag) (a : Addr) (vs : List Value) (ns : List Int) : Hp := fun b => if b = a ∧ (K.lookup a).isNone = true then some (.frz { cls := .type "list", data := .seq vs.toArray } (.lst (ns.map V.int))) else none
theorem scrH_some {b : Addr} {o : HO} (h : scrH K a vs ns b = some o) : b = a ∧ K.lookup a = none ∧ o = .frz { cls := .type "list", data := .seq vs.toArray } (.lst (ns.map V.int)) := by
  unfold scrH at h
  split at h
  · rename_i c
    exact ⟨c.1, Option.isNone_iff_eq_none.mp c.2, (Option.some.inj h).symm⟩
  · cases h
theorem AtLaw.seq (L : AtLaw K mg mb s₁ a vs ns) : SqL K (scrH K a vs ns) a (ns.map V.int) := by
  have rv : Vals (ns.map V.int) vs := vals_ints L.nums
  cases e : K.lookup a with
  | none => exact .inl (.inr ⟨_, by unfold scrH; rw [e]; exact if_pos ⟨rfl, rfl⟩⟩)
  | some o =>
    have q := L.kin a o e
    rw [L.obj] at q
    have q := Option.some.inj q
    subst q
    exact .inr ⟨_, vs.toArray, _, e, rfl, rfl, rfl, by rw [List.size_toArray, L.nums.length]; exact L.len, by simpa using rv⟩
theorem AtLaw.ok (L : AtLaw K mg mb s₁ a vs ns) : HOk P w (scrH K a vs ns) s₁.heap := fun b u h => by
  obtain ⟨rfl, _, rfl⟩ := scrH_some h
  exact ⟨L.obj, by rw [List.length_map]; exact L.len, vs, _, vals_ints L.nums, L.obj⟩
theorem AtLaw.env (L : AtLaw K mg mb s₁ a vs ns) : Env0 P w K mg (hidT s₁.heap (scrH K a vs ns)) callerA [] s₁ (scrH K a vs ns) := by
  have stay : ∀ {b : Addr} {o : Obj}, s₁.heap.get? b = some o → (b = a → o.data ≠ .seq vs.toArray) → (hidT s₁.heap (scrH K a vs ns)).get? b = some o := fun {b o} e hd => hidT_get e (by
    cases q : scrH K a vs ns b with
    | none => rfl
    | some u =>
      obtain ⟨rfl, _, _⟩ := scrH_some q
      rw [L.obj] at e
      exact absurd (by rw [← Option.some.inj e]) (hd rfl))
  have names : ∀ {b : Addr} {m : Str → Option Value}, s₁.heap.Ns b m → (hidT s₁.heap (scrH K a vs ns)).Ns b m := fun ⟨o, es, ep, e, d, r⟩ => ⟨o, es, ep, stay e (fun _ z => by rw [d] at z; cases z), d, r⟩
  obtain ⟨mc, lim, lim'⟩ := L.lim
  refine ⟨rfl, ⟨fun b o e => hidT_get (L.kin b o e) ?_, names L.glob, ⟨mb, names L.blt, L.boot⟩, ⟨mc, names lim, lim'⟩⟩, fun b o e => of_hidT e, Nat.le_of_eq (hidT_size _ _), trivial, (fun b hb => nomatch hb), L.ok, .of_eq L.gens⟩
  cases q : scrH K a vs ns b with
  | none => rfl
  | some u =>
    obtain ⟨rfl, n, _⟩ := scrH_some q
    rw [n] at e
    cases e
/-- the promise over data, met at the law's own call -/
theorem AtLaw.call {k : Nat} {fa : Addr} {fd : FuncData} {x : Str} {dsp : DSp} (L : AtLaw K mg mb s₁ a vs ns) (hr : Room k callerA) (F : DFn P w K mg (hidT s₁.heap (scrH K a vs ns)) k fa fd [x] dsp) (hb : ∀ (s : Shared) (u : Value), BindsTo s fd ⟨[u], []⟩ [(x, u)])
    (hd : dsp [.scr ns] [] fun d _ => d = dB true) :
    codeAny (model P w) callerA (.call (.ref fa) ⟨[.ref a], []⟩) (fun r s' => r = .ok (.ret (.bool true)) ∧ OldK s₁.heap s'.heap ∧ s'.os = s₁.os ∧ PyProof.Rows.AllBare s'.gens) s₁ := by
  have st : StAt P w K ⟨scrH K a vs ns, scrH K a vs ns, []⟩ ⟨[DV.scr ns].map some, []⟩ ([V.ref a].map some) [] (scrH K a vs ns) (scrH K a vs ns) [] :=
    ⟨Ex.refl _, Ex.refl _, Ex.refl _, fun b o q1 q2 _ => absurd (q2.symm.trans q1) (fun z => nomatch z), rfl, fun _ z => (nomatch z), List.nodup_nil, rfl, fun _ z => (nomatch z), rfl, fun i d q => by
      match i, q with
      | 0, q => cases q; exact ⟨.ref a, rfl, a, rfl, L.seq⟩
      | i + 1, q => simp at q, fun _ z => (nomatch z), fun k o q => by simp at q⟩
  have sp : spD P w K dsp [.ref a] (scrH K a vs ns) (fun v _ => v = .bl true) (fun _ _ _ => False) :=
    ⟨_, [], [.scr ns], [], _, st, rfl, hd, fun v d ρ σ μ' H' e o => by subst e; obtain ⟨F', α', o⟩ := o; exact vok_bl o.top⟩
  refine codeAny_mono (F.fn.run callerA [] s₁ _ ⟨[.ref a], []⟩ [.ref a] [.ref a] _ _ hr rfl L.env (hb s₁ _) (.cons rfl .nil) sp) fun r s' h => ?_
  match r, h with
  | .ok (.ret u), h =>
    obtain ⟨v, H', os, bare, un, hok', rv, e⟩ := h
    have e' : v = .bl true := e
    subst e'
    cases (show u = Value.bool true from rv)
    refine ⟨rfl, OldK.of_keep fun b o e => ?_, os, bare⟩
    cases q : scrH K a vs ns b with
    | none => exact un.keep b o e q (fun z => nomatch z) (fun z => nomatch z)
    | some u =>
      obtain ⟨rfl, _, rfl⟩ := scrH_some q
      rw [L.obj] at e
      cases e
      exact (hok' b _ (un.frzs b _ _ q)).1
  | .ok .next, h => exact False.elim h
  | .ok .brk, h => exact False.elim h
  | .ok .cont, h => exact False.elim h
  | .error e, h => exact absurd h id
end
/-- THE END of a law: what k_head leaves, from the promise over data -/
theorem walk_ofD {l : PySem.W.OpenLaw} {n k : Nat} {q : Program} {loose : List Str} {XP : (Str → Option Value) → Heap → Prop} {YP : World → Heap → Prop} {d : DefRec} {K : Params → PySem.W.Frag} {x : Str} {dsp : World → DSp}
    (hn : l.most = some n) (hn2 : n ≤ sizeLine) (hdf : d.params.defaults = []) (hr : Room k callerA) (hY : ∀ (w : World) (h : Heap), YP w h → (K w.params).In h)
    (F : ∀ (w : World) (mg : Str → Option Value) (fa : Addr) (h : Heap), (K w.params).In h → h.Ns mainGlobals mg → mg d.name = some (.ref fa) →
      ∃ fd : FuncData, (∀ (s : Shared) (u : Value), BindsTo s fd ⟨[u], []⟩ [(x, u)]) ∧ ∀ base : Heap, (K w.params).In base → base.Ns mainGlobals mg → DFn l.prog w (K w.params) mg base k fa fd [x] (dsp w))
    (hsp : ∀ (w : World) (ns : List Int), ns.length ≤ n → (∀ z ∈ ns, Builtin.Int.intBits z ≤ 1048576) → dsp w [.scr ns] [] fun d _ => d = dB true) :
    PySem.W.WalkO q loose XP YP l.row.toRowW d [] (fun f vs => PySem.call f vs) := by
  refine Att.attach_callB hn hdf fun w s₀ s₁ mg mb fa o pm cd doc a vs ns G Y _ _ _ hmg hobj hints hlen hbits hg => ?_
  have KX := hY w _ Y
  obtain ⟨fd, hb, hF⟩ := F w mg fa _ KX G.T.g hmg
  have L : AtLaw (K w.params) mg mb s₁ a vs ns := ⟨KX, G.T.g, G.T.b, G.T.builtins, G.T.nolimit, hg, hobj, hints, Nat.le_trans hlen hn2⟩
  exact L.call hr (hF _ (L.env (P := l.prog) (w := w)).mod.kin (L.env (P := l.prog) (w := w)).mod.glob) hb (hsp w ns hlen hbits)
end DL

set_option Elab.async false
set_option linter.all false
set_option maxRecDepth 100000
set_option autoImplicit false
set_option maxHeartbeats 2000000
namespace DL
open PySem PySem.Spec L2 PyProof.Rows

/-! ## readings with a choice: what becomes a cell is said where the data are known -/
def dOrE (da db : DTE) : DTE := fun S R => da S R ∨ db S R
def gOr (g g' : D2) : D2 := fun x y S R => g x y S R ∨ g' x y S R
abbrev dLstX (da : DTA) : DTE := dOrE (dLst da) (dLstC da)
abbrev dLcX (di : DTI) (dg : DTG) (dt : DTT) (de : DTE) (vs : List Nat) : DTE := dOrE (dLc di dg dt de vs) (dLcC di dg dt de vs)
abbrev dCallX (dsp : DSp) (dds : List DV) (da : DTA) : DTE := dCall dsp dds da
section
variable {P : Program} {w : World} {K : PySem.W.Frag} {te : TE} {da db : DTE} {r : R2} {g g' : D2}
theorem snd_orE (h1 : SndE P w K te da) (h2 : SndE P w K te db) : SndE P w K te (dOrE da db) := fun B S σ ts H R Q h hd k => by
  rcases hd with hd | hd
  · exact h1 B S σ ts H R Q h hd k
  · exact h2 B S σ ts H R Q h hd k
theorem snd_gOr (h1 : SndR P w K r g) (h2 : SndR P w K r g') : SndR P w K r (gOr g g') := fun B S σ ts H x y dx dy R Q h hd k => by
  rcases hd with hd | hd
  · exact h1 B S σ ts H x y dx dy R Q h hd k
  · exact h2 B S σ ts H x y dx dy R Q h hd k
theorem snd_rOr {r' : R2} (h1 : SndR P w K r g) (h2 : SndR P w K r' g') : SndR P w K (fun x y H Q => r x y H Q ∨ r' x y H Q) (gOr g g') := fun B S σ ts H x y dx dy R Q h hd k => by
  rcases hd with hd | hd
  · exact .inl (h1 B S σ ts H x y dx dy R Q h hd k)
  · exact .inr (h2 B S σ ts H x y dx dy R Q h hd k)
end
/-! == with texts of any kind, with lists that are cells -/
def DSt.dat (S : DSt) : DV → Option PyData
  | .imm d => some d
  | .cell k => match S.cell k with
    | some (.lst ds) => (allImm ds).map .list
    | _ => none
  | _ => none
theorem StAt.dat {P : Program} {w : World} {K : PySem.W.Frag} {B : Bs} {S : DSt} {σ : L2.St} {ts : List (V × DV)} {H F : Hp} {α : List Addr} {v : V} {x : DV} {d : PyData} (h : StAt P w K B S σ ts H F α) (hv : VOk P w K F α v x) (e : S.dat x = some d) (hs : SeqAt.shaped d = true) : Dp K H v d := by
  cases x with
  | imm d0 => cases e; exact dp_of hs hv h.fh
  | cell k =>
    obtain ⟨a, h1, rfl⟩ := hv
    have e' : (match S.cell k with | some (.lst ds) => (allImm ds).map PyData.list | _ => none) = some d := e
    cases q : S.cell k with
    | none => rw [q] at e'; cases e'
    | some o =>
      rw [q] at e'
      cases o with
      | lst ds =>
        obtain ⟨ps, e1, e2⟩ := Option.map_eq_some_iff.mp (show (allImm ds).map PyData.list = some d from e')
        subst e2
        obtain ⟨a', g1, _, xs, g3, g4⟩ := h.ce k _ (cell_get q)
        cases h1.symm.trans g1
        exact .lst (SqL.of g3) (dp_layAll h.fh ps (by have := SeqAt.canLay_of_shaped hs; simpa only [PyData.canLay0] using this) (imms e1 g4))
      | dic _ => cases e'
      | ins _ _ => cases e'
      | ho _ => cases e'
      | lck _ _ => cases e'
      | tdk _ => cases e'
  | raw _ => cases e
  | obj _ => cases e
  | scr _ => cases e
def gEqX : D2 := fun x y S R => match x.str?, y.str? with
  | some a, some b => R (dB (decide (a = b))) S
  | _, _ => match S.dat x, S.dat y with
    | some d, some e => (SeqAt.shaped d && SeqAt.shaped e) = true ∧ R (dB (PyData.eqv d e)) S
    | _, _ => False
def gNeX : D2 := fun x y S R => match x.str?, y.str? with
  | some a, some b => R (dB (!decide (a = b))) S
  | _, _ => match S.dat x, S.dat y with
    | some d, some e => (SeqAt.shaped d && SeqAt.shaped e) = true ∧ R (dB (!PyData.eqv d e)) S
    | _, _ => False
theorem dec_str {a b : Str} : decide (V.str a = V.str b) = decide (a = b) := by simp
theorem od_eqX {X : Cx} (hu : X.A.units + 64 < cLine) : OpD X (compareOp .Eq) gEqX := ⟨_, .or op_eq (op_eqD hu), fun B S σ ts H x y dx dy R Q h hd k => by
  obtain ⟨F, α, h⟩ := h
  unfold gEqX at hd
  split at hd
  · rename_i a b e1 e2
    rw [str?_eq e1, str?_eq e2] at h
    refine .inl ?_
    rw [vok_str h.top2, vok_str h.top]
    exact ⟨rfl, by rw [dec_str]; exact k _ _ S H hd ((h.sub mem2).add vbl).ok⟩
  · split at hd
    · rename_i d e e1 e2
      obtain ⟨s1, s2⟩ := Bool.and_eq_true_iff.mp hd.1
      exact .inr ⟨d, e, h.dat h.top2 e1 s1, h.dat h.top e2 s2, s1, s2, k _ _ S H hd.2 ((h.sub mem2).add vbl).ok⟩
    · exact hd.elim⟩
theorem od_neX {X : Cx} (hu : X.A.units + 64 < cLine) : OpD X (compareOp .NotEq) gNeX := ⟨_, .or op_ne (op_neD hu), fun B S σ ts H x y dx dy R Q h hd k => by
  obtain ⟨F, α, h⟩ := h
  unfold gNeX at hd
  split at hd
  · rename_i a b e1 e2
    rw [str?_eq e1, str?_eq e2] at h
    refine .inl ?_
    rw [vok_str h.top2, vok_str h.top]
    exact ⟨rfl, by rw [dec_str]; exact k _ _ S H hd ((h.sub mem2).add vbl).ok⟩
  · split at hd
    · rename_i d e e1 e2
      obtain ⟨s1, s2⟩ := Bool.and_eq_true_iff.mp hd.1
      exact .inr ⟨d, e, h.dat h.top2 e1 s1, h.dat h.top e2 s2, s1, s2, k _ _ S H hd.2 ((h.sub mem2).add vbl).ok⟩
    · exact hd.elim⟩
theorem room_u {k n : Nat} {A : Around} (r : Room k A) (h : n ≤ 200 := by decide) : A.units + n < cLine := by have := r.un; omega
section
variable {X : Cx} {e elt tg iter : Expr} {es ifs : List Expr} {da dr : DTA} {de : DTE} {pos : Pos} {dg : DTG} {dt : DTT} {js : List Nat} {di : DTI}
theorem de_lstX (h : DA X es dr) : DE X (.List es pos) (dLstX dr) := by
  obtain ⟨t, a1, a2⟩ := h.ex
  exact ⟨_, pe_lst a1, snd_orE (snd_lst a2) (snd_lstC a2)⟩
theorem od_addX : OpD X (binaryOp .Add) (gOr gAdd gAddC) := by
  obtain ⟨r, a1, a2⟩ := (od_add (X := X)).ex
  obtain ⟨r', b1, b2⟩ := (od_addC (X := X)).ex
  exact ⟨_, .or a1 b1, snd_rOr a2 b2⟩
theorem od_mulX : OpD X (binaryOp .Mult) (gOr gMul gMulC) := by
  obtain ⟨r, a1, a2⟩ := (od_mul (X := X)).ex
  obtain ⟨r', b1, b2⟩ := (od_mulC (X := X)).ex
  exact ⟨_, .or a1 b1, snd_rOr a2 b2⟩
theorem de_gintE {x : Str} {i : Int} (hg : Gl X x) (hm : ∃ t, X.mg x = some (.int i t)) (hd : (x == ("__debug__" : Str)) = false := by decide) : DE X (.Name x pos) (dC (dI i)) := by
  obtain ⟨t, hm⟩ := hm
  exact de_gint hg hm ⟨t, rfl⟩ hd
theorem de_lcX {own : List (Str × Nat)} {scope : Scope} (hc : X.calm = true) (hN : X.N.Nodup) (hi : DI X tg iter di) (ok : BlkOk X.N X.env.scope scope own)
    (blk : ∀ (s : Shared) (H : Hp) (C : Addr) (cl : List (Str × Addr)) (fp : List Addr), DG (blkX X scope s H C cl fp) tg js dg ∧ DTs (blkX X scope s H C cl fp) ifs dt ∧ DE (blkX X scope s H C cl fp) elt de)
    (hj : ∀ j ∈ js, j ∈ own.map (·.2)) (hs : ∀ x, foldedSetIterable iter X.env x = pure x := by intro _; rfl) : DE X (.ListComp elt [⟨tg, iter, ifs, 0⟩] scope pos) (dLcX di dg dt de (own.map (·.2))) := by
  obtain ⟨wi, a1, a2⟩ := hi.ex
  exact ⟨_, pe_lc (g := canG X.prog X.w X.K js dg) (tt := canT X.prog X.w X.K dt) (te := canE X.prog X.w X.K de) hc hN a1 ok (fun s H C cl fp => (blk s H C cl fp).1.can) (fun s H C cl fp => (blk s H C cl fp).2.1.can) (fun s H C cl fp => (blk s H C cl fp).2.2.can) hs,
    snd_orE (snd_lc a2 (snd_canG js dg) (snd_canT dt) (snd_canE de) hj) (snd_lcC a2 (snd_canG js dg) (snd_canT dt) (snd_canE de) hj)⟩
theorem ds_setLcX {i : Nat} {y : Str} {py : Pos} {own : List (Str × Nat)} {scope : Scope} {spos : Pos} (hc : X.calm = true) (hN : X.N.Nodup) (hy : X.N[i]? = some y) (hyl : X.env.scope.names.lookup y = some .local)
    (hsw : swapsWith (.ListComp elt [⟨tg, iter, ifs, 0⟩] scope pos) (some (.Name y py)) spos.line X.env = pure true) (hi : DI X tg iter di) (ok : BlkOk X.N X.env.scope scope own)
    (blk : ∀ (s : Shared) (H : Hp) (C : Addr) (cl : List (Str × Addr)) (fp : List Addr), DG (blkX X scope s H C cl fp) tg js dg ∧ DTs (blkX X scope s H C cl fp) ifs dt ∧ DE (blkX X scope s H C cl fp) elt de)
    (hj : ∀ j ∈ js, j ∈ own.map (·.2)) (hs : ∀ x, foldedSetIterable iter X.env x = pure x := by intro _; rfl) : DS X (.Assign [.Name y py] (.ListComp elt [⟨tg, iter, ifs, 0⟩] scope pos) spos) (dAsg (dLcX di dg dt de (own.map (·.2))) (dgName i)) := by
  obtain ⟨wi, a1, a2⟩ := hi.ex
  refine ⟨_, ps_setLc (g := canG X.prog X.w X.K js dg) (tt := canT X.prog X.w X.K dt) (te := canE X.prog X.w X.K de) hc hN hy hyl hsw a1 ok (fun s H C cl fp => (blk s H C cl fp).1.can) (fun s H C cl fp => (blk s H C cl fp).2.1.can) (fun s H C cl fp => (blk s H C cl fp).2.2.can) hs, fun B S σ ts H D G h hd l => ?_⟩
  refine snd_orE (snd_lc a2 (snd_canG js dg) (snd_canT dt) (snd_canE de) hj) (snd_lcC a2 (snd_canG js dg) (snd_canT dt) (snd_canE de) hj) B S σ ts H _ _ h hd fun v d S1 H1 q o => ?_
  obtain ⟨F, α, o⟩ := o
  exact l.nx _ _ H1 q ((o.setSlot o.top).sub mem1).ok
theorem de_callX {k : Nat} {f : Addr} {fd : FuncData} {ps : List Str} {dsp : DSp} {ds : List Value} {dvs : List V} {dds : List DV} {x : Str} {p : Pos}
    (F : DFn X.prog X.w X.K X.mg X.base k f fd ps dsp) (hr : Room k X.A) (hgd : X.A.guards = some []) (hg : Gl X x) (hm : X.mg x = some (.ref f)) (hk : PySem.W.keepIn X.K (.ref f) = true) (hb : Binds X.K fd ps ds) (hd : Vals dvs ds) (hdv : ∀ (F : Hp) (α : List Addr), Paired (VOk X.prog X.w X.K F α) dvs dds)
    (ha : DA X (e :: es) da) (hdb : (x == ("__debug__" : Str)) = false := by decide) (he : starEach (e :: es) X.env = (false, eval e X.env) :: starEach es X.env := by rfl) (hpl : (backTo pos (starEach es X.env)).any (·.1) = false := by rfl) :
    DE X (.Call (.Name x p) (e :: es) [] pos) (dCallX dsp dds da) := by
  obtain ⟨t, a1, a2⟩ := ha.ex
  exact ⟨_, pe_callG (E := fun _ _ _ => False) F.fn hr hgd hg hm hk hb hd pass0 a1 hdb he hpl, snd_call a2 hdv⟩
theorem de_call0X {k : Nat} {f : Addr} {fd : FuncData} {ps : List Str} {dsp : DSp} {ds : List Value} {dvs : List V} {dds : List DV} {x : Str} {p : Pos}
    (F : DFn X.prog X.w X.K X.mg X.base k f fd ps dsp) (hr : Room k X.A) (hgd : X.A.guards = some []) (hg : Gl X x) (hm : X.mg x = some (.ref f)) (hk : PySem.W.keepIn X.K (.ref f) = true) (hb : Binds X.K fd ps ds) (hd : Vals dvs ds) (hdv : ∀ (F : Hp) (α : List Addr), Paired (VOk X.prog X.w X.K F α) dvs dds)
    (hdb : (x == ("__debug__" : Str)) = false := by decide) : DE X (.Call (.Name x p) [] [] pos) (dCallX dsp dds dNil) :=
  ⟨_, pe_call0G (E := fun _ _ _ => False) F.fn hr hgd hg hm hk hb hd pass0 hdb, snd_call snd_nil hdv⟩
end
/-- in place of an argument that stands by the kit's module: DI for the items of a walk, whatever it is -/
theorem dfn_len {P : Program} {w : World} {K : PySem.W.Frag} {mg : Str → Option Value} {base : Heap} {x qual : Str} {st : Stmt} {f : Addr} {fd : FuncData} {N ps : List Str} {k : Nat} {dsp : DSp} {dt : DTS} (F : Fun K x qual st f fd) (S : FnScope N ps (defScope st)) (len : ∀ ds μ R, dsp ds μ R → ds.length = ps.length)
    (hb : ∀ (cdv : Value) (A : Around) (outer : List Env) (s : Shared) (H : Hp) (E : XK), Room k (A.deeper (envOfC qual (defScope st) s.heap.objs.size f cdv)) → A.guards = some [] → DSs (ctxD P w K mg base N qual (defScope st) f cdv A outer s H E) (defBody st) dt)
    (go : ∀ ds μ R, dsp ds μ R → dt { nx := fun S => R dN S.μ, rt := fun d S => R d S.μ } ⟨ds.map some ++ List.replicate (N.length - ds.length) none, μ⟩) : DFn P w K mg base (k + 1) f fd ps dsp :=
  dfn_of F S len fun cdv A outer s H E hr hg => ⟨dt, hb cdv A outer s H E hr hg, go⟩
end DL

set_option Elab.async false
set_option linter.all false
set_option maxRecDepth 100000
set_option autoImplicit false
set_option maxHeartbeats 2000000
namespace DL
open PySem PySem.Spec L2 PyProof.Rows

/-! ## the readings, run: one rule for each word, from the goal backwards -/
def IsB (x : DV) (R : Bool → DSt → Prop) (S : DSt) : Prop := ∃ b, x = dB b ∧ R b S
section
variable {P : Program} {w : World} {K : PySem.W.Frag} {S S' : DSt} {R : DV → DSt → Prop} {RB : Bool → DSt → Prop} {RA : List DV → DSt → Prop} {RS : DSt → Prop} {D : DEnds} {d x y : DV} {da db dc : DTE} {dt du : DTT} {dr : DTA} {g g' : D2} {g1 : D1} {ds du' : DTS} {i j : Nat} {b : Bool} {gc : DC1} {dg : DTG}
theorem r_isB (h : RB b S) : IsB (dB b) RB S := ⟨b, rfl, h⟩
theorem isB_of {x : DV} (h : IsB x RB S) : match x with | .imm (.bool b) => RB b S | _ => False := by
  obtain ⟨b, rfl, h⟩ := h
  exact h
theorem r_var (h : S.get i = some d) (k : R d S) : dVar i S R := by unfold dVar; rw [h]; exact k
theorem r_c (k : R d S) : dC d S R := k
theorem r_op (k : da S fun x S1 => db S1 fun y S2 => g x y S2 R) : dOp g da db S R := k
theorem r_un (k : da S fun x S1 => g1 x S1 R) : dUn g1 da S R := k
/-- a reading that gives more gives less too -/
def Mono (de : DTE) : Prop := ∀ S (R R' : DV → DSt → Prop), (∀ d S', R d S' → R' d S') → de S R → de S R'
end
/-! the continuation forms: the rest of the reading is put behind without asking that a reading be monotone -/
section
variable {P : Program} {w : World} {K : PySem.W.Frag} {S S' : DSt} {R : DV → DSt → Prop} {RB : Bool → DSt → Prop} {RA : List DV → DSt → Prop} {RS : DSt → Prop} {D : DEnds} {d x y : DV} {da db dc : DTE} {dt du : DTT} {dr : DTA} {g g' : D2} {g1 : D1} {ds du' : DTS} {i j : Nat} {b : Bool} {gc : DC1} {dg : DTG}
def kTest (R : Bool → DSt → Prop) : DV → DSt → Prop := fun x S1 => match x with
  | .imm (.bool b) => R b S1
  | _ => False
theorem r_test (k : da S (kTest RB)) : dTest da S RB := k
theorem r_kTest (k : RB b S) : kTest RB (dB b) S := k
theorem r_and (k : dt S fun b S1 => if b = true then du S1 RB else RB false S1) : dAnd dt du S RB := k
theorem r_or (k : dt S fun b S1 => if b = true then RB true S1 else du S1 RB) : dOr dt du S RB := k
theorem r_not (k : dt S fun b S1 => RB (!b) S1) : dNot dt S RB := k
theorem r_if (k : dt S fun b S1 => if b = true then da S1 R else db S1 R) : dIf dt da db S R := k
theorem r_andV (k : da S (kTest fun b S1 => if b = true then db S1 R else R (dB false) S1)) : dAndV da db S R := k
theorem r_orV (k : da S (kTest fun b S1 => if b = true then R (dB true) S1 else db S1 R)) : dOrV da db S R := k
theorem r_notV (k : da S (kTest fun b S1 => R (dB (!b)) S1)) : dNotV da S R := k
theorem r_chain (k : da S fun x S1 => db S1 fun y S2 => g x y S2 (kTest fun b S3 => if b = true then dc S3 fun u S4 => g' y u S4 R else R (dB false) S3)) : dChain g g' da db dc S R := k
theorem r_nil (k : RA [] S) : dNil S RA := k
theorem r_cons (k : da S fun x S1 => dr S1 fun xs S2 => RA (x :: xs) S2) : dCons da dr S RA := k
def kTup (R : DV → DSt → Prop) : List DV → DSt → Prop := fun ds S1 => ds.length ≤ sizeLine ∧ match allImm ds with
  | some ps => R (.imm (.tuple ps)) S1
  | none => False
theorem r_tup (k : dr S (kTup R)) : dTup dr S R := k
theorem r_kTup {es : List DV} {ps : List PyData} (e : allImm es = some ps) (hl : es.length ≤ sizeLine) (k : R (.imm (.tuple ps)) S) : kTup R es S := ⟨hl, by rw [e]; exact k⟩
def kLst (R : DV → DSt → Prop) : List DV → DSt → Prop := fun ds S1 => ds.length ≤ sizeLine ∧ match allImm ds with
  | some ps => R (.imm (.list ps)) S1
  | none => False
/-- a list display as data -/
theorem r_lst (k : dr S (kLst R)) : dLstX dr S R := .inl k
theorem r_kLst {es : List DV} {ps : List PyData} (e : allImm es = some ps) (hl : es.length ≤ sizeLine) (k : R (.imm (.list ps)) S) : kLst R es S := ⟨hl, by rw [e]; exact k⟩
def kLstC (R : DV → DSt → Prop) : List DV → DSt → Prop := fun ds S1 => ds.length ≤ sizeLine ∧ R (.cell S1.μ.length) (S1.new (.lst ds))
/-- .. as a cell -/
theorem r_lstC (k : dr S (kLstC R)) : dLstX dr S R := .inr k
theorem r_kLstC {es : List DV} (hl : es.length ≤ sizeLine) (k : R (.cell S.μ.length) (S.new (.lst es))) : kLstC R es S := ⟨hl, k⟩
theorem r_cb (k : dr S fun ds S1 => gc ds S1 R) : dCB gc dr S R := k
/-! ### operators -/
theorem r_cmp {f : Int → Int → Bool} {m n : Int} (k : R (dB (f m n)) S) : gCmp f (dI m) (dI n) S R := k
theorem r_add {m n : Int} (k : R (dI (m + n)) S) : gOr gAdd gAddC (dI m) (dI n) S R := .inl k
theorem r_addT {a c : List PyData} (hz : a.length + c.length ≤ sizeLine) (k : R (.imm (.tuple (a ++ c))) S) : gOr gAdd gAddC (.imm (.tuple a)) (.imm (.tuple c)) S R := .inl ⟨hz, k⟩
theorem r_sub {m n : Int} (k : R (dI (m - n)) S) : gSub (dI m) (dI n) S R := k
theorem r_mul {m n : Int} (h : MulOk m n) (k : R (dI (m * n)) S) : gOr gMul gMulC (dI m) (dI n) S R := .inl ⟨h, k⟩
theorem r_mod {m n : Int} (h : 0 < n) (k : R (dI (m % n)) S) : gMod (dI m) (dI n) S R := ⟨h, k⟩
theorem r_fdiv {m n : Int} (h : DivOk m n) (k : R (dI (m / n)) S) : gFdiv (dI m) (dI n) S R := ⟨h, k⟩
theorem r_neg {m : Int} (k : R (dI (-m)) S) : gNeg (dI m) S R := k
theorem r_isN {p : DV} {c : Bool} (h : isNone p = some c) (k : R (dB c) S) : gIsN p dN S R := by show match isNone p with | some b => R (dB b) S | none => False; rw [h]; exact k
theorem r_notN {p : DV} {c : Bool} (h : isNone p = some c) (k : R (dB (!c)) S) : gNotN p dN S R := by show match isNone p with | some b => R (dB (!b)) S | none => False; rw [h]; exact k
theorem r_isi {p : PyData} {c : String} (hc : c ∈ tyNames) (k : R (dB (isiT (tyI p) c)) S) : gIsi [.imm p, .raw (.ty c)] S R := ⟨hc, k⟩
theorem r_len {p : DV} {l : Bool} {es : List DV} (hd : S.dict p = none) (h : S.seq p = some (l, es)) (k : R (dI es.length) S) : gLenA [p] S R := by
  show match S.dict p with | some kvs => R (dI kvs.length) S | none => gLen [p] S R
  rw [hd]
  show match S.seq p with | some (_, es) => R (dI es.length) S | none => _
  rw [h]; exact k
/-- x[i] of a list or tuple -/
theorem r_at {p : DV} {l : Bool} {es : List DV} {n : Int} {e : DV} (hd : S.dict p = none) (h : S.seq p = some (l, es)) (hi : atI es n = some e) (k : R e S) : gAt p (dI n) S R := by
  unfold gAt
  rw [hd]
  show gIx p (dI n) S R
  unfold gIx
  rw [show (dI n).int? = some n from rfl]
  dsimp only
  rw [h]
  dsimp only
  rw [hi]; exact k
/-- d[k] -/
theorem r_atD {p q : DV} {kvs : List (Leaf × DV)} {l : Leaf} {e : DV} (hd : S.dict p = some kvs) (hk : keyOf q = some l) (hi : valG kvs l = some e) (k : R e S) : gAt p q S R := by
  unfold gAt
  rw [hd, hk]
  show match valG kvs l with | some d => R d S | none => False
  rw [hi]; exact k
theorem r_min {m n : Int} {f : Int → Int → Int} (k : R (dI (f m n)) S) : gII2 f [dI m, dI n] S R := k
theorem r_bools {f : List Bool → Bool} {p : DV} {es : List DV} {bs : List Bool} (h : S.seq p = some (true, es)) (hb : allB es = some bs) (k : R (dB (f bs)) S) : gBools f [p] S R := by
  unfold gBools
  dsimp only
  rw [h]
  dsimp only
  rw [hb]; exact k
theorem r_repr {p : PyData} (h : CanShow p) (k : R (dS p.shown) S) : gRepr [.imm p] S R := ⟨h, k⟩
/-! ### calls that take and give data -/
def bareP : List DV → Bool := fun ds => ds.all DV.bare
theorem ren_bare : ∀ {es : List DV}, bareP es = true → renDs [] es = some es
  | [], _ => rfl
  | e :: es, h => by
    have h' : (e.bare && bareP es) = true := h
    rw [Bool.and_eq_true] at h'
    have i := ren_bare h'.2
    show (match renD [] e, renDs [] es with | some d', some r' => some (d' :: r') | _, _ => none) = _
    rw [i]
    cases e with
    | cell _ => exact absurd h'.1 Bool.false_ne_true
    | _ => rfl
theorem r_call {dsp : DSp} {dds : List DV} (k : dr S fun es S1 => ∃ ks, kCall dsp R (es ++ dds) S1 ks) : dCallX dsp dds dr S R := k
/-- what a call gives back -/
def retK (R : DV → DSt → Prop) (S1 : DSt) (ks : List Nat) : DV → List (Option DO) → Prop := fun d μ' => match d with
  | .cell j => if h : j < ks.length then R (.cell ks[j]) ⟨S1.ρ, backs S1.μ ks μ'⟩ else match μ'[j]? with
    | some (some o) => if o.bare = true then R (.cell S1.μ.length) ⟨S1.ρ, backs S1.μ ks μ' ++ [some o]⟩ else False
    | _ => False
  | d => R d ⟨S1.ρ, backs S1.μ ks μ'⟩
/-- a call that takes data -/
theorem r_callI {dsp : DSp} {es : List DV} (hb : bareP es = true) (k : dsp es [] (retK R S [])) : ∃ ks, kCall dsp R (es ++ []) S ks := ⟨[], by
  unfold kCall
  rw [List.append_nil, ren_bare hb]
  exact ⟨List.nodup_nil, (fun _ h => nomatch h), k⟩⟩
theorem r_retI {p : PyData} {μ' : List (Option DO)} (k : R (.imm p) S) : retK R S [] (.imm p) μ' := k
/-! ### statements -/
theorem r_seq (k : ds { D with nx := fun S1 => du' D S1 } S) : dSeq ds du' D S := k
theorem r_asg (k : da S fun d S1 => dg (.one d) S1 D.nx) : dAsg da dg D S := k
theorem r_gn (k : RS (S.set i d)) : dgName i (.one d) S RS := k
theorem r_gtwo (k : RS ((S.set i x).set j y)) : dgTwo i j (.two x y) S RS := k
theorem r_drop (k : da S fun _ S1 => D.nx S1) : dDrop da D S := k
theorem r_ret (k : da S fun d S1 => D.rt d S1) (hm : Mono da) : dRetW P w K da D S := hm S _ _ (fun d S1 q => ⟨d, S1, .refl, q⟩) k
def kRet (P : Program) (w : World) (K : PySem.W.Frag) (D : DEnds) : DV → DSt → Prop := fun d S1 => ∃ d' S', Wk P w K d S1 d' S' ∧ D.rt d' S'
theorem r_retK (k : da S (kRet P w K D)) : dRetW P w K da D S := k
theorem r_kRet (k : D.rt d S) : kRet P w K D d S := ⟨d, S, .refl, k⟩
theorem r_ifS (k : dt S fun b S1 => if b = true then ds D S1 else du' D S1) : dIfS dt ds du' D S := k
theorem r_yes (k : RB true S) : dYes S RB := k
theorem r_next (k : D.nx S) : dNext D S := k
theorem r_brk (k : D.bk S) : dBreak D S := k
theorem r_cont (k : D.ct S) : dCont D S := k
theorem r_ite {A B : Prop} {b : Bool} (h1 : b = true → A) (h2 : b = false → B) : if b = true then A else B := by
  cases b with
  | true => exact h1 rfl
  | false => exact h2 rfl
theorem r_iteT {A B : Prop} {b : Bool} (h : b = true) (k : A) : if b = true then A else B := by rw [if_pos h]; exact k
theorem r_iteF {A B : Prop} {b : Bool} (h : b = false) (k : B) : if b = true then A else B := by rw [h]; exact k
end
/-! ### walks -/
section
variable {P : Program} {w : World} {K : PySem.W.Frag} {S S' : DSt} {R : DV → DSt → Prop} {RI : List DY → (DSt → Prop) → DSt → Prop} {D : DEnds} {d x y : DV} {da db de dk dv' : DTE} {dt : DTT} {dr : DTA} {dg : DTG} {di : DTI} {ds : DTS} {vs : List Nat} {RL : List PyData → DSt → Prop} {RD : List (Leaf × DV) → DSt → Prop}
def kAny (RI : List DY → (DSt → Prop) → DSt → Prop) : DV → DSt → Prop := fun d S1 => match S1.items d with
  | some (es, Sy) => RI (es.map DY.one) Sy S1
  | none => False
theorem r_iAny (k : da S (kAny RI)) : diAny da S RI := k
theorem r_kAny {es : List DV} {St : DSt → Prop} (h : S.items d = some (es, St)) (k : RI (es.map DY.one) St S) : kAny RI d S := by unfold kAny; rw [h]; exact k
def kR1 (RI : List DY → (DSt → Prop) → DSt → Prop) : List DV → DSt → Prop := fun ds S1 => match ds with
  | [d] => match d.int? with
    | some j => (-(2 ^ 62) ≤ j ∧ j < 2 ^ 62) ∧ RI (rangeD 0 j.toNat) (fun _ => True) S1
    | none => False
  | _ => False
theorem r_iR1 (k : dr S (kR1 RI)) : diRange1 dr S RI := k
theorem r_kR1 {j : Int} (h : -(2 ^ 62) ≤ j ∧ j < 2 ^ 62) (k : RI (rangeD 0 j.toNat) (fun _ => True) S) : kR1 RI [dI j] S := ⟨h, k⟩
def kR2 (RI : List DY → (DSt → Prop) → DSt → Prop) : List DV → DSt → Prop := fun ds S1 => match ds with
  | [c, d] => match c.int?, d.int? with
    | some i, some j => (-(2 ^ 62) ≤ i ∧ i < 2 ^ 62 ∧ -(2 ^ 62) ≤ j ∧ j < 2 ^ 62) ∧ RI (rangeD i (j - i).toNat) (fun _ => True) S1
    | _, _ => False
  | _ => False
theorem r_iR2 (k : dr S (kR2 RI)) : diRange2 dr S RI := k
theorem r_kR2 {i j : Int} (h : -(2 ^ 62) ≤ i ∧ i < 2 ^ 62 ∧ -(2 ^ 62) ≤ j ∧ j < 2 ^ 62) (k : RI (rangeD i (j - i).toNat) (fun _ => True) S) : kR2 RI [dI i, dI j] S := ⟨h, k⟩
def kEn (RI : List DY → (DSt → Prop) → DSt → Prop) : List DV → DSt → Prop := fun ds S1 => match ds with
  | [.imm p] => match S1.seq (.imm p) with
    | some (_, es) => RI (enumD es) (fun _ => True) S1
    | none => False
  | _ => False
theorem r_iEn (k : dr S (kEn RI)) : diEnum dr S RI := k
theorem r_kEn {p : PyData} {l : Bool} {es : List DV} (h : S.seq (.imm p) = some (l, es)) (k : RI (enumD es) (fun _ => True) S) : kEn RI [.imm p] S := by show match S.seq (.imm p) with | some (_, es) => RI (enumD es) (fun _ => True) S | none => False; rw [h]; exact k
/-- a for loop, what is walked being known -/
def ForK (dg : DTG) (db : DTS) (D : DEnds) (ys : List DY) (St : DSt → Prop) (S1 : DSt) : Prop := ∃ I : Nat → DSt → Prop, I 0 S1 ∧ (∀ i S2, i ≤ ys.length → I i S2 → St S2) ∧
  (∀ i y S2, ys[i]? = some y → I i S2 → dg y S2 fun S3 => db { D with nx := I (i + 1), ct := I (i + 1), bk := D.nx } S3) ∧ ∀ S2, I ys.length S2 → D.nx S2
theorem r_for (k : di S (ForK dg ds D)) : dFor di dg ds D S := k
def LcK (dg : DTG) (dt : DTT) (de : DTE) (vs : List Nat) (R : List PyData → DSt → Prop) (ys : List DY) (St : DSt → Prop) (S1 : DSt) : Prop := ∃ I : Nat → List PyData → List (Option DO) → Prop, I 0 [] S1.μ ∧ (∀ i acc μ, i ≤ ys.length → I i acc μ → St ⟨wipeD S1.ρ vs, μ⟩) ∧
  (∀ i y acc μ, ys[i]? = some y → I i acc μ → dg y ⟨wipeD S1.ρ vs, μ⟩ fun S3 => dt S3 fun b S4 => if b = true then de S4 fun d S5 => match d.imm? with
    | some p => I (i + 1) (acc ++ [p]) S5.μ
    | none => False else I (i + 1) acc S4.μ) ∧ ys.length < sizeLine ∧ ∀ acc μ, I ys.length acc μ → R acc ⟨S1.ρ, μ⟩
/-- a list comprehension as data -/
theorem r_lc (k : di S (LcK dg dt de vs fun acc S1 => R (.imm (.list acc)) S1)) : dLcX di dg dt de vs S R := .inl k
/-- .. as a cell -/
theorem r_lcC (k : di S (LcK dg dt de vs fun acc S1 => R (.cell S1.μ.length) (S1.new (.lst (acc.map DV.imm))))) : dLcX di dg dt de vs S R := .inr k
/-- a comprehension that changes nothing: what each turn gives -/
theorem lc_run {ys : List DY} {St : DSt → Prop} (hSt : ∀ S, St S) (hl : ys.length < sizeLine) (p : DY → Bool) (f : DY → PyData)
    (step : ∀ y, y ∈ ys → ∀ N : Option PyData → List (Option DO) → Prop, N (if p y = true then some (f y) else none) S.μ → dg y ⟨wipeD S.ρ vs, S.μ⟩ fun S3 => dt S3 fun b S4 => if b = true then de S4 fun d S5 => match d.imm? with
      | some q => N (some q) S5.μ
      | none => False else N none S4.μ)
    (k : RL ((ys.filter p).map f) S) : LcK dg dt de vs RL ys St S := by
  refine ⟨fun i acc μ => acc = ((ys.take i).filter p).map f ∧ μ = S.μ, ⟨rfl, rfl⟩, fun _ _ _ _ _ => hSt _, ?_, hl, ?_⟩
  · rintro i y acc μ hy ⟨rfl, rfl⟩
    have ht : ys.take (i + 1) = ys.take i ++ [y] := by rw [List.take_add_one, hy]; rfl
    refine step y (List.mem_of_getElem? hy) (fun o μ => match o with
      | some q => ((ys.take i).filter p).map f ++ [q] = ((ys.take (i + 1)).filter p).map f ∧ μ = S.μ
      | none => ((ys.take i).filter p).map f = ((ys.take (i + 1)).filter p).map f ∧ μ = S.μ) ?_
    rw [ht, List.filter_append, List.map_append]
    by_cases c : p y = true
    · rw [if_pos c]
      simp [List.filter_cons, c]
    · rw [if_neg c]
      simp [List.filter_cons, c]
  · rintro acc μ ⟨rfl, rfl⟩
    rw [List.take_length]
    exact k
def DcKK (dg : DTG) (dt : DTT) (dk dv' : DTE) (vs : List Nat) (R : List (Leaf × DV) → DSt → Prop) (ys : List DY) (St : DSt → Prop) (S1 : DSt) : Prop := ∃ I : Nat → List (Leaf × DV) → List (Option DO) → Prop, I 0 [] S1.μ ∧ (∀ i acc μ, i ≤ ys.length → I i acc μ → St ⟨wipeD S1.ρ vs, μ⟩) ∧
  (∀ i y acc μ, ys[i]? = some y → I i acc μ → dg y ⟨wipeD S1.ρ vs, μ⟩ fun S3 => dt S3 fun b S4 => if b = true then dk S4 fun kd S5 => dv' S5 fun d S6 => match intKey kd with
    | some k => I (i + 1) (putG acc (lfK k) d) S6.μ
    | none => False else I (i + 1) acc S4.μ) ∧ ys.length < sizeLine ∧ ∀ acc μ, I ys.length acc μ → R acc ⟨S1.ρ, μ⟩
theorem r_dc (k : di S (DcKK dg dt dk dv' vs fun acc S1 => R (.cell S1.μ.length) (S1.new (.dic acc)))) : dDcC di dg dt dk dv' vs S R := k
end

end DL

set_option Elab.async false
set_option linter.all false
set_option maxRecDepth 100000
set_option autoImplicit false
set_option maxHeartbeats 2000000
namespace DL
open PySem PySem.Spec L2 PyProof.Rows

/-! ## cells frozen all at once: what hangs on them is data from now on -/
mutual
inductive FzD (S : DSt) (fz : List Nat) : DV → PyData → Prop
  | imm (d : PyData) : FzD S fz (.imm d) d
  | lst {k : Nat} {ds : List DV} {ps : List PyData} : k ∈ fz → S.cell k = some (.lst ds) → FzAll S fz ds ps → FzD S fz (.cell k) (.list ps)
  | dic {k : Nat} {kvs : List (Leaf × DV)} {qs : List (PyData × PyData)} : k ∈ fz → S.cell k = some (.dic kvs) → qs.map (·.1) = kvs.map (fun p => kvD p.1) → FzAll S fz (kvs.map (·.2)) (qs.map (·.2)) → FzD S fz (.cell k) (.dict qs)
inductive FzAll (S : DSt) (fz : List Nat) : List DV → List PyData → Prop
  | nil : FzAll S fz [] []
  | cons {d : DV} {ds : List DV} {p : PyData} {ps : List PyData} : FzD S fz d p → FzAll S fz ds ps → FzAll S fz (d :: ds) (p :: ps)
end
theorem FzAll.imm {S : DSt} {fz : List Nat} : ∀ ps : List PyData, FzAll S fz (ps.map DV.imm) ps
  | [] => .nil
  | p :: ps => .cons (.imm p) (FzAll.imm ps)
/-- the cells fz are not known any more -/
def DSt.less (S : DSt) (fz : List Nat) : DSt := ⟨S.ρ, S.μ.mapIdx fun i o => if i ∈ fz then none else o⟩
open Classical in
/-- the fixed part with the cells fz in it -/
noncomputable def fixF (F H : Hp) (α : List Addr) (fz : List Nat) : Hp := fun b => if ∃ k ∈ fz, α[k]? = some b then H b else F b
section
variable {P : Program} {w : World} {K : PySem.W.Frag} {S : DSt} {d : DV} {p : PyData} {fz : List Nat} {B : Bs} {σ : L2.St} {ts : List (V × DV)} {H F : Hp} {α : List Addr}
theorem fixF_in {k : Nat} {b : Addr} (hk : k ∈ fz) (hb : α[k]? = some b) : fixF F H α fz b = H b := if_pos ⟨k, hk, hb⟩
theorem fixF_ex (h : StAt P w K B S σ ts H F α) : Ex F (fixF F H α fz) := fun b o e => by
  unfold fixF
  split
  · exact h.fh b o e
  · exact e
mutual
theorem fz_rp (h : StAt P w K B S σ ts H F α) : ∀ {d : DV} {p : PyData} {v : V}, FzD S fz d p → VOk P w K F α v d → Rp P w K (fixF F H α fz) v p
  | _, _, _, .imm _, hv => Rp.up (fixF_ex h) hv
  | _, _, _, .lst hk hc ha, hv => by
    obtain ⟨a, a1, rfl⟩ := hv
    obtain ⟨a', g1, _, xs, g3, g4⟩ := h.ce _ _ (cell_get hc)
    cases a1.symm.trans g1
    exact .lst ((fixF_in hk a1).trans g3) (fz_all h ha g4)
  | _, _, _, .dic hk hc hq ha, hv => by
    obtain ⟨a, a1, rfl⟩ := hv
    obtain ⟨a', g1, _, xs, g3, g4⟩ := h.ce _ _ (cell_get hc)
    cases a1.symm.trans g1
    have g5 : Paired (KVOk P w K F α) xs _ := g4
    refine .dic ((fixF_in hk a1).trans g3) ?_ ?_
    · rw [hq]
      have e := pair_keys g5
      have e2 := congrArg (List.map kvD) e
      rw [List.map_map, List.map_map] at e2
      exact e2.symm
    · have g6 : ∀ {xs : List (Leaf × V)} {es : List (Leaf × DV)}, Paired (KVOk P w K F α) xs es → Paired (VOk P w K F α) (xs.map (·.2)) (es.map (·.2)) := by
        intro xs es q
        induction q with
        | nil => exact .nil
        | cons q _ ih => exact .cons q.2 ih
      exact fz_all h ha (g6 g5)
theorem fz_all (h : StAt P w K B S σ ts H F α) : ∀ {ds : List DV} {ps : List PyData} {vs : List V}, FzAll S fz ds ps → Paired (VOk P w K F α) vs ds → RpAll P w K (fixF F H α fz) vs ps
  | _, _, _, .nil, hv => by cases hv; exact .nil
  | _, _, _, .cons a b, hv => by
    cases hv with
    | cons h1 h2 => exact .cons (fz_rp h a h1) (fz_all h b h2)
end
/-- THE RULE: d is data from now on, the cells fz go into the fixed part -/
theorem Wk.fix (fz : List Nat) (hp : FzD S fz d p) : Wk P w K d S (.imm p) (S.less fz) := fun B σ ts H v F α h hv => by
  have e := fixF_ex (fz := fz) h
  refine ⟨fixF F H α fz, ⟨fun b o q => ?_, h.bh, h.bf.trans e, fun b o q1 q2 q3 => ?_, h.bp, h.bn, h.nd, ?_, h.an, h.len, fun i d0 q => ?_, fun q hq => (h.tm q hq).up0 e, fun k u q => ?_⟩, fz_rp h hp hv, e⟩
  · unfold fixF at q
    split at q
    · exact q
    · exact h.fh b o q
  · obtain ⟨h1, h2, h3⟩ := h.bc b o q1 q2 q3
    refine ⟨h1, ?_, h3⟩
    unfold fixF
    rw [if_neg]
    · exact h2
    · rintro ⟨k, _, hk⟩
      exact h3 (List.mem_of_getElem? hk)
  · show α.length = (S.μ.mapIdx _).length
    rw [List.length_mapIdx]; exact h.al
  · obtain ⟨v0, h1, h2⟩ := h.sl i d0 q
    exact ⟨v0, h1, h2.up0 e⟩
  · have q' : (S.μ.mapIdx fun i o => if i ∈ fz then none else o)[k]? = some (some u) := q
    rw [List.getElem?_mapIdx] at q'
    cases q2 : S.μ[k]? with
    | none => rw [q2] at q'; cases q'
    | some u0 =>
      rw [q2] at q'
      have q3 : (if k ∈ fz then none else u0) = some u := Option.some.inj q'
      by_cases c : k ∈ fz
      · rw [if_pos c] at q3; cases q3
      · rw [if_neg c] at q3
        subst q3
        obtain ⟨a, g1, g2, g3⟩ := h.ce k u q2
        refine ⟨a, g1, ?_, g3.up0 e rfl⟩
        unfold fixF
        rw [if_neg]
        · exact g2
        · rintro ⟨j, hj, ej⟩
          have i1 := List.getElem?_eq_some_iff.mp g1
          have i2 := List.getElem?_eq_some_iff.mp ej
          have : j = k := (List.getElem_inj h.nd).mp (i2.2.trans i1.2.symm)
          exact c (this ▸ hj)
theorem r_kFix {D : DEnds} (fz : List Nat) (hp : FzD S fz d p) (k : D.rt (.imm p) (S.less fz)) : kRet P w K D d S := ⟨_, _, .fix fz hp, k⟩
theorem nodup_le {D : Type} [DecidableEq D] : ∀ {ks xs : List D}, ks.Nodup → (∀ k ∈ ks, k ∈ xs) → ks.length ≤ xs.length
  | [], _, _, _ => Nat.zero_le _
  | k :: ks, xs, h, hm => by
    rw [List.nodup_cons] at h
    have hk : k ∈ xs := hm k List.mem_cons_self
    have ih := nodup_le (ks := ks) (xs := xs.erase k) h.2 fun j hj => by
      have hne : j ≠ k := fun e => h.1 (e ▸ hj)
      exact (List.mem_erase_of_ne hne).mpr (hm j (List.mem_cons_of_mem _ hj))
    rw [List.length_erase_of_mem hk] at ih
    have hpos : 0 < xs.length := List.length_pos_of_mem hk
    rw [List.length_cons]
    omega
end
/-! ### cells, run -/
section
variable {S : DSt} {R : DV → DSt → Prop} {k : Nat} {es fs : List DV} {kvs : List (Leaf × DV)} {do' : DTE} {da : DTA} {T : String} {g : DM} {x y : DV}
theorem seq_cell (h : S.cell k = some (.lst es)) : S.seq (.cell k) = some (true, es) := by
  show (match S.cell k with | some (.lst ds) => some (true, ds) | _ => none) = _
  rw [h]
theorem lst_cell (h : S.cell k = some (.lst es)) : S.lst (.cell k) = some es := by
  show (match S.cell k with | some (.lst ds) => some ds | _ => none) = _
  rw [h]
theorem nodict_cell (h : S.cell k = some (.lst es)) : S.dict (.cell k) = none := by
  show (match S.cell k with | some (.dic kvs) => some kvs | _ => none) = _
  rw [h]
theorem dict_cell (h : S.cell k = some (.dic kvs)) : S.dict (.cell k) = some kvs := by
  show (match S.cell k with | some (.dic kvs) => some kvs | _ => none) = _
  rw [h]
theorem items_cell (h : S.cell k = some (.lst es)) : S.items (.cell k) = some (es, fun S' => S'.cell k = some (.lst es)) := by
  unfold DSt.items
  dsimp only
  rw [h]
def kM (T : String) (g : DM) (da : DTA) (R : DV → DSt → Prop) : DV → DSt → Prop := fun x S1 => isM S1 T x ∧ da S1 fun ds S2 => g x ds S2 R
def kM0 (T : String) (g : DM) (R : DV → DSt → Prop) : DV → DSt → Prop := fun x S1 => isM S1 T x ∧ g x [] S1 R
theorem r_bm (h : do' S (kM T g da R)) : dBM T g do' da S R := h
theorem r_bm0 (h : do' S (kM0 T g R)) : dBM0 T g do' S R := h
theorem r_kM (e : S.cell k = some (.lst es)) (h : da S fun ds S2 => g (.cell k) ds S2 R) : kM "list" g da R (.cell k) S := ⟨.inl ⟨rfl, es, seq_cell e⟩, h⟩
theorem r_kM0 (e : S.cell k = some (.lst es)) (h : g (.cell k) [] S R) : kM0 "list" g R (.cell k) S := ⟨.inl ⟨rfl, es, seq_cell e⟩, h⟩
theorem r_append (e : S.cell k = some (.lst es)) (hz : es.length < sizeLine) (h : R dN (S.put k (.lst (es ++ [y])))) : gAppend (.cell k) [y] S R := by
  show match S.cell k with | some (.lst es) => es.length < sizeLine ∧ R dN (S.put k (.lst (es ++ [y]))) | _ => False
  rw [e]; exact ⟨hz, h⟩
theorem r_extend (e : S.cell k = some (.lst es)) (e2 : S.lst y = some fs) (hz : es.length + fs.length ≤ sizeLine) (h : R dN (S.put k (.lst (es ++ fs)))) : gExtend (.cell k) [y] S R := by
  unfold gExtend
  dsimp only
  rw [e, e2]; exact ⟨hz, h⟩
end
/-! ### == of ints, of texts -/
section
variable {S : DSt} {R : DV → DSt → Prop} {m n : Int} {x y : Str}
theorem r_eqI (h : R (dB (m == n)) S) : gEqX (dI m) (dI n) S R := ⟨by simp [SeqAt.shaped, PyData.canLay0, PyData.depth], by simpa only [PyData.eqv] using h⟩
theorem r_neI (h : R (dB (!(m == n))) S) : gNeX (dI m) (dI n) S R := ⟨by simp [SeqAt.shaped, PyData.canLay0, PyData.depth], by simpa only [PyData.eqv] using h⟩
theorem r_eqS (h : R (dB (decide (x = y))) S) : gEqX (dS x) (dS y) S R := h
theorem r_neS (h : R (dB (!decide (x = y))) S) : gNeX (dS x) (dS y) S R := h
theorem r_eqL {a b : DV} {p q : PyData} (n1 : a.str? = none) (e1 : S.dat a = some p) (e2 : S.dat b = some q) (h : (SeqAt.shaped p && SeqAt.shaped q) = true) (k : R (dB (PyData.eqv p q)) S) : gEqX a b S R := by
  unfold gEqX
  rw [n1]
  dsimp only
  rw [e1, e2]
  exact ⟨h, k⟩
theorem r_neL {a b : DV} {p q : PyData} (n1 : a.str? = none) (e1 : S.dat a = some p) (e2 : S.dat b = some q) (h : (SeqAt.shaped p && SeqAt.shaped q) = true) (k : R (dB (!PyData.eqv p q)) S) : gNeX a b S R := by
  unfold gNeX
  rw [n1]
  dsimp only
  rw [e1, e2]
  exact ⟨h, k⟩
theorem r_eq {p q : PyData} (hs : ∀ z, p ≠ .str z) (h : (SeqAt.shaped p && SeqAt.shaped q) = true) (k : R (dB (PyData.eqv p q)) S) : gEqX (.imm p) (.imm q) S R := by
  unfold gEqX
  cases p with
  | str z => exact absurd rfl (hs z)
  | _ => exact ⟨h, k⟩
theorem r_ne {p q : PyData} (hs : ∀ z, p ≠ .str z) (h : (SeqAt.shaped p && SeqAt.shaped q) = true) (k : R (dB (!PyData.eqv p q)) S) : gNeX (.imm p) (.imm q) S R := by
  unfold gNeX
  cases p with
  | str z => exact absurd rfl (hs z)
  | _ => exact ⟨h, k⟩
end
/-! ### set(t), sorted(set(t)), run -/
section
variable {w : World} {S : DSt} {R : DV → DSt → Prop}
theorem r_setT {x : DV} {es : List DV} {ns : List Int} (h : S.seq x = some (false, es)) (hn : allI es = some ns) (hz : ns.length + 1 < scanBound) (k : ∀ ks : List Int, ks.Nodup → (∀ k, k ∈ ks ↔ k ∈ ns) → R (.obj fun b => SetO w b (fun j => decide (j ∈ ns)) ks.length) S) : gSetT w [x] S R := by
  unfold gSetT
  dsimp only
  rw [h]
  dsimp only
  rw [hn]
  exact ⟨hz, k⟩
theorem r_sortedSet {f : Int → Bool} {c : Nat} (hc : c < 64) (k : ∀ ns : List Int, ns.Pairwise (· < ·) → (∀ k, k ∈ ns ↔ f k = true) → ns.length = c → R (.imm (.list (ns.map .int))) S) : gSortedSet w [.obj fun b => SetO w b f c] S R := ⟨f, c, rfl, hc, k⟩
end
end DL

set_option Elab.async false
set_option linter.all false
set_option maxRecDepth 100000
set_option autoImplicit false
set_option maxHeartbeats 2000000
namespace DL
open PySem PySem.Spec L2 PyProof.Rows

/-! ## one of two ways -/
theorem PE.or' {X : Cx} {e : Expr} {t t' : TE} (h : PE X e t) (h' : PE X e t') : PE X e (fun σ H Q => t σ H Q ∨ t' σ H Q) := ⟨fun pins s σ H Q I q => by
  rcases q with q | q
  · exact h.run pins s σ H Q I q
  · exact h'.run pins s σ H Q I q⟩
theorem DE.or {X : Cx} {e : Expr} {d d' : DTE} (h : DE X e d) (h' : DE X e d') : DE X e (dOrE d d') := by
  obtain ⟨t, a1, a2⟩ := h.ex
  obtain ⟨t', b1, b2⟩ := h'.ex
  exact ⟨_, PE.or' a1 b1, fun B S σ ts H R Q o hd k => by
    rcases hd with hd | hd
    · exact .inl (a2 B S σ ts H R Q o hd k)
    · exact .inr (b2 B S σ ts H R Q o hd k)⟩

/-! ## tuple(x), list(x) -/
def gTupOf : DC1 := fun ds S R => match ds with
  | [x] => match S.seq x with
    | some (true, es) => match allImm es with
      | some ps => R (.imm (.tuple ps)) S
      | none => False
    | some (false, _) => R x S
    | none => False
  | _ => False
section
variable {X : Cx}
theorem cd_tup : CallD X (.type "tuple") gTupOf := ⟨_, call_tupZ, fun B S σ ts H xs ds R Q hl h hd k => by
  match ds, hd with
  | [x], hd =>
    match xs, hl with
    | [y], _ =>
      obtain ⟨F, α, h⟩ := h
      have h1 := h.tm (y, x) (by simp)
      have hd' : match S.seq x with
        | some (true, es) => match allImm es with
          | some ps => R (.imm (.tuple ps)) S
          | none => False
        | some (false, _) => R x S
        | none => False := hd
      split at hd'
      · rename_i es e
        obtain ⟨p, ys, rfl, hq, hp⟩ := h.seq h1 e
        split at hd'
        · rename_i ps e2
          exact .inl ⟨p, ys, rfl, hq, fun q ob hq ho => k _ _ S _ hd' ((h.sub memA).newTup hq ho (imms e2 hp)).ok⟩
        · exact hd'.elim
      · rename_i es e
        obtain ⟨p, ys, rfl, hq, hp⟩ := h.seq h1 e
        exact .inr ⟨p, ys, rfl, hq, k _ _ S H hd' ((h.sub memA).add h1).ok⟩
      · exact hd'.elim⟩
def gListOf : DC1 := fun ds S R => match ds with
  | [x] => match S.seq x with
    | some (_, es) => (match allImm es with
      | some ps => R (.imm (.list ps)) S
      | none => False) ∨ R (.cell S.μ.length) (S.new (.lst es))
    | none => False
  | _ => False
theorem cd_list : CallD X (.type "list") gListOf := ⟨_, call_list_of, fun B S σ ts H xs ds R Q hl h hd k => by
  match ds, hd with
  | [x], hd =>
    match xs, hl with
    | [y], _ =>
      obtain ⟨F, α, h⟩ := h
      have h1 := h.tm (y, x) (by simp)
      have hd' : match S.seq x with
        | some (_, es) => (match allImm es with
          | some ps => R (.imm (.list ps)) S
          | none => False) ∨ R (.cell S.μ.length) (S.new (.lst es))
        | none => False := hd
      split at hd'
      · rename_i b es e
        obtain ⟨p, ys, rfl, hq, hp⟩ := h.seq h1 e
        refine ⟨p, ys, rfl, ?_, fun l hn => ?_⟩
        · cases b with
          | true => exact .inl hq
          | false => exact .inr hq
        · rcases hd' with hd' | hd'
          · split at hd'
            · rename_i ps e2
              exact k _ _ S _ hd' ((h.sub memA).newLst hn (imms e2 hp)).ok
            · exact hd'.elim
          · exact k _ _ _ _ hd' ((h.sub memA).newCell hn hp).ok
      · exact hd'.elim⟩
/-! ### of ranges -/
def rgD (a b : Int) : List PyData := (List.range (b - a).toNat).map fun (i : Nat) => .int (a + (i : Int))
theorem rgD_len (a b : Int) : (rgD a b).length = (b - a).toNat := by unfold rgD; rw [List.length_map, List.length_range]
theorem rp_rg {P : Program} {w : World} {K : PySem.W.Frag} {F : Hp} (a b : Int) : RpAll P w K F (rgV a b) (rgD a b) := by
  unfold rgV rgD
  generalize List.range (b - a).toNat = zs
  induction zs with
  | nil => exact .nil
  | cons z zs ih => exact .cons (.int _) ih
abbrev DTR := DSt → (Int → Int → DSt → Prop) → Prop
structure DR (X : Cx) (e : Expr) (dr : DTR) : Prop where
  ex : ∃ t, PRg X e t ∧ ∀ (B : Bs) (S : DSt) (σ : L2.St) (ts : List (V × DV)) (H : Hp) (R : Int → Int → DSt → Prop) (Q : Int → Int → Hp → Prop), StOk X.prog X.w X.K B S σ ts H → dr S R →
    (∀ a b S' H', R a b S' → StOk X.prog X.w X.K B S' σ ts H' → Q a b H') → t σ H Q
def dRg1 (da : DTE) : DTR := fun S R => da S fun x S1 => match x.int? with
  | some j => R 0 j S1
  | none => False
def dRg2 (da db : DTE) : DTR := fun S R => da S fun x S1 => db S1 fun y S2 => match x.int?, y.int? with
  | some i, some j => R i j S2
  | _, _ => False
variable {a b e : Expr} {da db : DTE} {dr : DTR} {p pos : Pos}
theorem dr_1 (hg : Gl X "range") (hm : X.mg "range" = none) (ha : DE X a da) (na : starEach [a] X.env = (false, eval a X.env) :: starEach [] X.env := by rfl) : DR X (.Call (.Name "range" p) [a] [] pos) (dRg1 da) := by
  obtain ⟨t, a1, a2⟩ := ha.ex
  refine ⟨_, prg_1 hg hm a1 na, fun B S σ ts H R Q o hd k => a2 B S σ ts H _ _ o hd fun v d S1 H1 q o1 => ?_⟩
  split at q
  · rename_i j e
    rw [int?_eq e] at o1
    obtain ⟨F, α, o1⟩ := o1
    exact ⟨j, vok_int o1.top, k _ _ _ _ q (o1.sub mem1).ok⟩
  · exact q.elim
theorem dr_2 (hg : Gl X "range") (hm : X.mg "range" = none) (ha : DE X a da) (hb : DE X b db) (na : starEach [a, b] X.env = (false, eval a X.env) :: starEach [b] X.env := by rfl)
    (nb : starEach [b] X.env = (false, eval b X.env) :: starEach [] X.env := by rfl) (hp : (backTo pos (starEach [b] X.env)).any (·.1) = false := by rfl) : DR X (.Call (.Name "range" p) [a, b] [] pos) (dRg2 da db) := by
  obtain ⟨t, a1, a2⟩ := ha.ex
  obtain ⟨u, b1, b2⟩ := hb.ex
  refine ⟨_, prg_2 hg hm a1 b1 na nb hp, fun B S σ ts H R Q o hd k => a2 B S σ ts H _ _ o hd fun v d S1 H1 q o1 => b2 B S1 σ _ H1 _ _ o1 q fun v2 d2 S2 H2 q2 o2 => ?_⟩
  split at q2
  · rename_i i j e1 e2
    rw [int?_eq e1, int?_eq e2] at o2
    obtain ⟨F, α, o2⟩ := o2
    exact ⟨i, j, vok_int o2.top2, vok_int o2.top, k _ _ _ _ q2 (o2.sub mem2).ok⟩
  · exact q2.elim
/-- list(range(..)): data, or a cell -/
def dLstRg (dr : DTR) : DTE := fun S R => dr S fun a b S1 => RgOk a b ∧ (R (.imm (.list (rgD a b))) S1 ∨ R (.cell S1.μ.length) (S1.new (.lst ((rgD a b).map DV.imm))))
theorem de_lstRg (hc : X.calm = true) (hg : Gl X "list") (hm : X.mg "list" = none) (he : DR X e dr) (na : starEach [e] X.env = (false, eval e X.env) :: starEach [] X.env := by rfl) : DE X (.Call (.Name "list" p) [e] [] pos) (dLstRg dr) := by
  obtain ⟨t, a1, a2⟩ := he.ex
  refine ⟨_, pe_listRg hc hg hm a1 na, fun B S σ ts H R Q o hd k => a2 B S σ ts H _ _ o hd fun i j S1 H1 q o1 => ⟨q.1, fun l hn => ?_⟩⟩
  obtain ⟨F, α, o1⟩ := o1
  rcases q.2 with q | q
  · exact k _ _ S1 _ q (o1.newLst hn (rp_rg i j)).ok
  · exact k _ _ _ _ q (o1.newCell hn (paired_imm (rp_rg i j))).ok
def tTupRgZ (te : L2.St → Hp → (Int → Int → Hp → Prop) → Prop) : TE := fun σ H Q => te σ H fun a b H1 => RgOk a b ∧ NewZ H1 (rgV a b) Q
theorem pe_tupRgZ {te : L2.St → Hp → (Int → Int → Hp → Prop) → Prop} (hc : X.calm = true) (hg : Gl X "tuple") (hm : X.mg "tuple" = none) (he : PRg X e te) (na : starEach [e] X.env = (false, eval e X.env) :: starEach [] X.env := by rfl) : PE X (.Call (.Name "tuple" p) [e] [] pos) (tTupRgZ te) := ⟨fun pins s σ H Q I h => by
  refine Call_ (ld_blt I hg hm boot_tuple (callWith_type1 (args_cons (thn (he pins s σ H _ I h) fun x s1 ⟨r, i, j, t, u, v, H1, ex, hr, I1, ok, q⟩ => args_nil ?_) na) na))
  subst ex
  obtain ⟨b1, b2, b3, b4, b5⟩ := ok
  refine call_tuple_range (I1.ok.hd hc) hr (small_one b1 b2 b3 b4) (rangeSize_nat i j) b5 fun h' tk acc kept items => ?_
  have e2 : acc = acc.toList.toArray := by simp
  rw [e2]
  exact laidZ (t' := tk) (I1.kept (t' := tk) kept) (vals_rg items) (by rw [rgV_length, sizeLine_eq]; omega) q⟩
def dTupRg (dr : DTR) : DTE := fun S R => dr S fun a b S1 => RgOk a b ∧ R (.imm (.tuple (rgD a b))) S1
theorem de_tupRg (hc : X.calm = true) (hg : Gl X "tuple") (hm : X.mg "tuple" = none) (he : DR X e dr) (na : starEach [e] X.env = (false, eval e X.env) :: starEach [] X.env := by rfl) : DE X (.Call (.Name "tuple" p) [e] [] pos) (dTupRg dr) := by
  obtain ⟨t, a1, a2⟩ := he.ex
  refine ⟨_, pe_tupRgZ hc hg hm a1 na, fun B S σ ts H R Q o hd k => a2 B S σ ts H _ _ o hd fun i j S1 H1 q o1 => ⟨q.1, fun l ob hn ho => ?_⟩⟩
  obtain ⟨F, α, o1⟩ := o1
  exact k _ _ S1 _ q.2 (o1.newTup hn ho (rp_rg i j)).ok
/-- lo, lo + c, .. -/
def rangeCD (lo c : Int) (n : Nat) : List DY := (List.range n).map fun (i : Nat) => DY.one (dI (lo + (i : Int) * c))
theorem rangeCD_len (lo c : Int) (n : Nat) : (rangeCD lo c n).length = n := by unfold rangeCD; rw [List.length_map, List.length_range]
theorem rangeCD_get {lo c : Int} {n i : Nat} {y : DY} (h : (rangeCD lo c n)[i]? = some y) : i < n ∧ y = .one (dI (lo + (i : Int) * c)) := by
  unfold rangeCD at h
  rw [List.getElem?_map] at h
  by_cases q : i < n
  · rw [List.getElem?_range q] at h
    cases h
    exact ⟨q, rfl⟩
  · rw [List.getElem?_eq_none (by simpa using q)] at h
    cases h
theorem get_rangeCD {lo c : Int} {n i : Nat} (h : i < n) : (rangeCD lo c n)[i]? = some (.one (dI (lo + (i : Int) * c))) := by
  unfold rangeCD
  rw [List.getElem?_map, List.getElem?_range h]
  rfl
theorem snd_rngC {P : Program} {w : World} {K : PySem.W.Frag} {B : Bs} {S1 : DSt} {σ : L2.St} {ts : List (V × DV)} {H1 : Hp} {lo c : Int} {n : Nat} {R : List DY → (DSt → Prop) → DSt → Prop} {Q : It → Hp → Prop} (q : R (rangeCD lo c n) (fun _ => True) S1) (o : StOk P w K B S1 σ ts H1)
    (k : ∀ (ys : List DY) (Sy : DSt → Prop) (S1 : DSt) (H1 : Hp) (J : It) (G : Hp → Prop) (Y : Nat → Hp → V → Hp → Prop) (us : List (V × DV)), R ys Sy S1 → StOk P w K B S1 σ (us ++ ts) H1 → L2.Walk J ys.length G Y →
    (∀ B2 S2 σ2 H2 vs, (∀ p ∈ us, p ∈ vs) → Sy S2 → StOk P w K B2 S2 σ2 vs H2 → G H2) →
    (∀ B2 i S2 σ2 H2 x H3 vs, i < ys.length → (∀ p ∈ us, p ∈ vs) → Sy S2 → StOk P w K B2 S2 σ2 vs H2 → Y i H2 x H3 → ∃ y, ys[i]? = some y ∧ StY P w K B2 S2 σ2 vs H3 x y) → Q J H1) : Q (Itc lo c n) H1 := by
  refine k (rangeCD lo c n) (fun _ => True) S1 H1 (Itc lo c n) _ _ [] q o (by rw [rangeCD_len]; exact walk_rangeC) (fun _ _ _ _ _ _ _ _ => trivial) fun B2 i S2 σ2 H2 v H3 vs hi hv hs2 ⟨F2, α2, o2⟩ y => ?_
  obtain ⟨rfl, rfl⟩ := y
  rw [rangeCD_len] at hi
  exact ⟨_, get_rangeCD hi, F2, α2, o2, Rp.int _⟩
/-- for x in reversed(range(..)) -/
def diRevR (dr : DTR) : DTI := fun S R => dr S fun a b S1 => (-(2 ^ 62) ≤ a ∧ a < 2 ^ 62 ∧ -(2 ^ 62) ≤ b ∧ b < 2 ^ 62) ∧ R (rangeCD (a + (((b - a).toNat : Nat) : Int) - 1) (-1) (b - a).toNat) (fun _ => True) S1
theorem di_revR {tg : Expr} (hg : Gl X "reversed") (hm : X.mg "reversed" = none) (he : DR X e dr) (hs : starEach [e] X.env = (false, eval e X.env) :: starEach [] X.env := by rfl) : DI X tg (.Call (.Name "reversed" p) [e] [] pos) (diRevR dr) := by
  obtain ⟨t, a1, a2⟩ := he.ex
  refine ⟨_, pi_revR hg hm a1 hs, fun B S σ ts H R Q o hd k => a2 B S σ ts H _ _ o hd fun i j S1 H1 q o1 => ⟨q.1.1, q.1.2.1, q.1.2.2.1, q.1.2.2.2, snd_rngC q.2 o1 k⟩⟩
/-! ## sorted, sum, divmod, int, str -/
def gSorted : DC1 := fun ds S R => match ds with
  | [x] => match S.seq x with
    | some (true, es) => match allI es with
      | some ns => ∀ ns' : List Int, ns'.Perm ns → ns'.Pairwise (· ≤ ·) → R (.imm (.list (ns'.map .int))) S
      | none => False
    | _ => False
  | _ => False
theorem cd_sorted : CallD X (.builtin "sorted") gSorted := ⟨_, cr_sortedI, fun B S σ ts H xs ds R Q hl h hd k => by
  match ds, hd with
  | [x], hd =>
    match xs, hl with
    | [y], _ =>
      obtain ⟨F, α, h⟩ := h
      have h1 := h.tm (y, x) (by simp)
      unfold gSorted at hd
      dsimp only at hd
      split at hd
      · rename_i es e
        obtain ⟨p, ys, e0, hq, hp⟩ := h.seq h1 e
        dsimp only at e0
        subst e0
        split at hd
        · rename_i ns e2
          have hq' : SqL X.K H p ys := hq
          rw [allI_ok hp e2] at hq'
          exact ⟨p, ns, rfl, hq', fun ns' l q1 q2 hn => k _ _ S _ (hd ns' q1 q2) ((h.sub memA).newLst hn (rp_ints ns')).ok⟩
        · exact hd.elim
      · exact hd.elim⟩
def gSum : DC1 := fun ds S R => match ds with
  | [x] => match S.seq x with
    | some (true, es) => match allI es with
      | some ns => R (dI ns.sum) S
      | none => False
    | _ => False
  | _ => False
theorem cd_sum (hc : X.calm = true) : CallD X (.builtin "sum") gSum := ⟨_, cr_sum hc, fun B S σ ts H xs ds R Q hl h hd k => by
  match ds, hd with
  | [x], hd =>
    match xs, hl with
    | [y], _ =>
      obtain ⟨F, α, h⟩ := h
      have h1 := h.tm (y, x) (by simp)
      unfold gSum at hd
      dsimp only at hd
      split at hd
      · rename_i es e
        obtain ⟨p, ys, e0, hq, hp⟩ := h.seq h1 e
        dsimp only at e0
        subst e0
        split at hd
        · rename_i ns e2
          have hq' : SqL X.K H p ys := hq
          rw [allI_ok hp e2] at hq'
          exact ⟨p, ns, rfl, hq', k _ _ S H hd ((h.sub memA).add vint).ok⟩
        · exact hd.elim
      · exact hd.elim⟩
def gDivmod : DC1 := fun ds S R => match ds with
  | [x, y] => match x.int?, y.int? with
    | some i, some j => DivOk i j ∧ R (.imm (.tuple [.int (i / j), .int (i % j)])) S
    | _, _ => False
  | _ => False
theorem cd_divmod : CallD X (.builtin "divmod") gDivmod := ⟨_, call_divmodZ, fun B S σ ts H xs ds R Q hl h hd k => by
  match ds, hd with
  | [x, y], hd =>
    match xs, hl with
    | [u, v], _ =>
      obtain ⟨F, α, h⟩ := h
      have h1 := h.tm (u, x) (by simp)
      have h2 := h.tm (v, y) (by simp)
      have hd' : match x.int?, y.int? with
        | some i, some j => DivOk i j ∧ R (.imm (.tuple [.int (i / j), .int (i % j)])) S
        | _, _ => False := hd
      split at hd'
      · rename_i i j e1 e2
        rw [int?_eq e1] at h1
        rw [int?_eq e2] at h2
        have h1' := vok_int h1
        have h2' := vok_int h2
        dsimp only at h1' h2'
        subst h1' h2'
        exact ⟨i, j, rfl, hd'.1, fun p ob hn ho => k _ _ S _ hd'.2 ((h.sub memA).newTup hn ho (.cons (.int _) (.cons (.int _) .nil))).ok⟩
      · exact hd'.elim⟩
def gInt : DC1 := fun ds S R => match ds with
  | [.imm (.int i)] => R (dI i) S
  | [.imm (.bool b)] => R (dI (if b then 1 else 0)) S
  | _ => False
theorem cd_int : CallD X (.type "int") gInt := ⟨_, call_int1, fun B S σ ts H xs ds R Q hl h hd k => by
  unfold gInt at hd
  split at hd
  · rename_i i
    match xs, hl with
    | [u], _ =>
      obtain ⟨F, α, h⟩ := h
      have e := vok_int (h.tm (u, dI i) (by simp))
      dsimp only at e
      subst e
      exact .inl ⟨i, rfl, k _ _ S H hd ((h.sub memA).add vint).ok⟩
  · rename_i b
    match xs, hl with
    | [u], _ =>
      obtain ⟨F, α, h⟩ := h
      have e := vok_bl (h.tm (u, dB b) (by simp))
      dsimp only at e
      subst e
      exact .inr ⟨b, rfl, k _ _ S H hd ((h.sub memA).add vint).ok⟩
  · exact hd.elim⟩
def gStr : DC1 := fun ds S R => match ds with
  | [.imm (.int i)] => i.natAbs.log2 < 1920 ∧ R (dS (toString i)) S
  | _ => False
theorem cd_str : CallD X (.type "str") gStr := ⟨_, call_str_int, fun B S σ ts H xs ds R Q hl h hd k => by
  unfold gStr at hd
  split at hd
  · rename_i i
    match xs, hl with
    | [u], _ =>
      obtain ⟨F, α, h⟩ := h
      have e := vok_int (h.tm (u, dI i) (by simp))
      dsimp only at e
      subst e
      exact ⟨i, rfl, hd.1, k _ _ S H hd.2 ((h.sub memA).add vstr).ok⟩
  · exact hd.elim⟩
end
end DL

set_option Elab.async false
set_option linter.all false
set_option maxRecDepth 100000
set_option autoImplicit false
set_option maxHeartbeats 2000000
namespace DL
open PySem PySem.Spec L2 PyProof.Rows

/-! ## more methods of lists and tuples -/
section
variable {X : Cx}
def gPop : DM := fun x ds S R => match x, ds with
  | .cell k, [] => match S.cell k with
    | some (.lst es) => match es[es.length - 1]? with
      | some d => R d (S.put k (.lst es.dropLast))
      | none => False
    | _ => False
  | _, _ => False
theorem pget' {V1 D1 : Type} {r : V1 → D1 → Prop} : ∀ {xs : List V1} {ds : List D1} (i : Nat) {d : D1}, Paired r xs ds → ds[i]? = some d → ∃ x, xs[i]? = some x ∧ r x d
  | _, _, _, _, .nil, h => by simp at h
  | _, _, 0, d, .cons h _, e => by simp at e; subst e; exact ⟨_, rfl, h⟩
  | _, _, i + 1, d, .cons _ t, e => by
    obtain ⟨x, h1, h2⟩ := pget' i t (by simpa using e)
    exact ⟨x, by simpa using h1, h2⟩
theorem md_pop : MthD X "list.pop" gPop := ⟨_, mt_pop, fun B S σ ts H x dx xs ds R Q hl h hd k => by
  unfold gPop at hd
  split at hd
  · rename_i kk
    split at hd
    · rename_i es e
      split at hd
      · rename_i d e2
        match xs, hl with
        | [], _ =>
          obtain ⟨F, α, h⟩ := h
          obtain ⟨a, zs, rfl, g1, g2, g3, g4⟩ := h.cellL (h.tm (x, .cell kk) (by simp)) e
          obtain ⟨y, y1, y2⟩ := pget' _ g4 e2
          exact ⟨a, zs, y, rfl, rfl, g3, by rw [Paired.length g4]; exact y1, k _ _ _ _ hd (((h.sub fun p hp => by simp [hp]).cellPut (u := .lst es.dropLast) g1 g2 ⟨_, upd_same, Paired.dropLast' g4⟩).add y2).ok⟩
      · exact hd.elim
    · exact hd.elim
  · exact hd.elim⟩
def gPopAt : DM := fun x ds S R => match x, ds with
  | .cell k, [d] => match S.cell k, d.int? with
    | some (.lst es), some i => 0 ≤ i ∧ i < 2 ^ 63 ∧ match es[i.toNat]? with
      | some d => R d (S.put k (.lst (es.eraseIdx i.toNat)))
      | none => False
    | _, _ => False
  | _, _ => False
theorem md_popAt : MthD X "list.pop" gPopAt := ⟨_, mt_popAt, fun B S σ ts H x dx xs ds R Q hl h hd k => by
  unfold gPopAt at hd
  split at hd
  · rename_i kk d0
    split at hd
    · rename_i es i e e1
      obtain ⟨i0, i1, hd⟩ := hd
      split at hd
      · rename_i d e2
        match xs, hl with
        | [y], _ =>
          obtain ⟨F, α, h⟩ := h
          obtain ⟨a, zs, rfl, g1, g2, g3, g4⟩ := h.cellL (h.tm (x, .cell kk) (by simp)) e
          obtain ⟨v, v1, v2⟩ := pget' _ g4 e2
          have hy := h.tm (y, d0) (by simp)
          rw [int?_eq e1] at hy
          have ey := vok_int hy
          dsimp only at ey
          subst ey
          have hlt : i.toNat < zs.length := (List.getElem?_eq_some_iff.mp v1).1
          exact ⟨a, zs, i, i.toNat, v, rfl, rfl, g3, by omega, i1, PySem.StrLaws.seqIndex_nonneg i0 (by omega), v1, k _ _ _ _ hd (((h.sub fun p hp => by simp [hp]).cellPut (u := .lst (es.eraseIdx i.toNat)) g1 g2 ⟨_, upd_same, Paired.erase' _ g4⟩).add v2).ok⟩
      · exact hd.elim
    · exact hd.elim
  · exact hd.elim⟩
def gReverse : DM := fun x ds S R => match x, ds with
  | .cell k, [] => match S.cell k with
    | some (.lst es) => R dN (S.put k (.lst es.reverse))
    | _ => False
  | _, _ => False
theorem md_reverse : MthD X "list.reverse" gReverse := ⟨_, mt_reverse, fun B S σ ts H x dx xs ds R Q hl h hd k => by
  unfold gReverse at hd
  split at hd
  · rename_i kk
    split at hd
    · rename_i es e
      match xs, hl with
      | [], _ =>
        obtain ⟨F, α, h⟩ := h
        obtain ⟨a, zs, rfl, g1, g2, g3, g4⟩ := h.cellL (h.tm (x, .cell kk) (by simp)) e
        exact ⟨a, zs, rfl, rfl, g3, k _ _ _ _ hd (((h.sub fun p hp => by simp [hp]).cellPut (u := .lst es.reverse) g1 g2 ⟨_, upd_same, Paired.rev' g4⟩).add vnon).ok⟩
    · exact hd.elim
  · exact hd.elim⟩
def gClear : DM := fun x ds S R => match x, ds with
  | .cell k, [] => match S.cell k with
    | some (.lst _) => R dN (S.put k (.lst []))
    | _ => False
  | _, _ => False
theorem md_clear : MthD X "list.clear" gClear := ⟨_, mt_clear, fun B S σ ts H x dx xs ds R Q hl h hd k => by
  unfold gClear at hd
  split at hd
  · rename_i kk
    split at hd
    · rename_i es e
      match xs, hl with
      | [], _ =>
        obtain ⟨F, α, h⟩ := h
        obtain ⟨a, zs, rfl, g1, g2, g3, g4⟩ := h.cellL (h.tm (x, .cell kk) (by simp)) e
        exact ⟨a, zs, rfl, rfl, g3, k _ _ _ _ hd (((h.sub fun p hp => by simp [hp]).cellPut (u := .lst []) g1 g2 ⟨_, upd_same, .nil⟩).add vnon).ok⟩
    · exact hd.elim
  · exact hd.elim⟩
/-- xs.index(k), xs.count(k): a list of ints -/
def gIndexI (l : Bool) : DM := fun x ds S R => match S.seq x, ds with
  | some (b, es), [d] => b = l ∧ match allI es, d.int? with
    | some ns, some k => k ∈ ns ∧ R (dI (ns.idxOf k : Nat)) S
    | _, _ => False
  | _, _ => False
theorem md_index : MthD X "list.index" (gIndexI true) := ⟨_, mt_index, fun B S σ ts H x dx xs ds R Q hl h hd k => by
  unfold gIndexI at hd
  split at hd
  · rename_i b es d e
    obtain ⟨rfl, hd⟩ := hd
    split at hd
    · rename_i ns z e1 e2
      match xs, hl with
      | [y], _ =>
        obtain ⟨F, α, h⟩ := h
        have hy := h.tm (y, d) (by simp)
        rw [int?_eq e2] at hy
        have ey := vok_int hy
        dsimp only at ey
        subst ey
        obtain ⟨p, ys, ex, hq, hp⟩ := h.seq (h.tm (x, dx) (by simp)) e
        dsimp only at ex
        subst ex
        have hq' : SqL X.K H p ys := hq
        rw [allI_ok hp e1] at hq'
        have hj : ns.idxOf z < ns.length := List.idxOf_lt_length_iff.mpr hd.1
        refine ⟨p, ns.map V.int, .int z, ns.idxOf z, .int z, rfl, rfl, hq', rfl, ?_, ?_, by simp [eqV], fun m z' hm hz => ?_, k _ _ S H hd.2 ((h.sub fun p hp => by simp [hp]).add vint).ok⟩
        · rw [List.all_map]; exact List.all_eq_true.mpr fun _ _ => rfl
        · rw [List.getElem?_map, List.getElem?_eq_getElem hj, List.getElem_idxOf hj]; rfl
        · rw [List.getElem?_map] at hz
          obtain ⟨i, hi, rfl⟩ := Option.map_eq_some_iff.mp hz
          have hml := (List.getElem?_eq_some_iff.mp hi).1
          have hne : i ≠ z := by
            rw [← (List.getElem?_eq_some_iff.mp hi).2]
            exact SeqAt.lt_idxOf_ne hm hml
          simp [eqV, hne]
    · exact hd.elim
  · exact hd.elim⟩
def gCountI : DM := fun x ds S R => match S.seq x, ds with
  | some (true, es), [d] => match allI es, d.int? with
    | some ns, some k => R (dI (ns.count k : Nat)) S
    | _, _ => False
  | _, _ => False
theorem md_count : MthD X "list.count" gCountI := ⟨_, mt_lcount, fun B S σ ts H x dx xs ds R Q hl h hd k => by
  unfold gCountI at hd
  split at hd
  · rename_i es d e
    split at hd
    · rename_i ns z e1 e2
      match xs, hl with
      | [y], _ =>
        obtain ⟨F, α, h⟩ := h
        have hy := h.tm (y, d) (by simp)
        rw [int?_eq e2] at hy
        have ey := vok_int hy
        dsimp only at ey
        subst ey
        obtain ⟨p, ys, ex, hq, hp⟩ := h.seq (h.tm (x, dx) (by simp)) e
        dsimp only at ex
        subst ex
        have hq' : SqL X.K H p ys := hq
        rw [allI_ok hp e1] at hq'
        exact ⟨p, ns, z, rfl, rfl, hq', k _ _ S H hd ((h.sub fun p hp => by simp [hp]).add vint).ok⟩
    · exact hd.elim
  · exact hd.elim⟩
/-- t.index(k): a tuple of ints -/
def rTIndex (K : PySem.W.Frag) : V → List V → Hp → VK → Prop := fun x xs H Q => ∃ (p : Addr) (ns : List Int) (k : Int), x = .ref p ∧ xs = [.int k] ∧ SqT K H p (ns.map V.int) ∧ k ∈ ns ∧ Q (.int (ns.idxOf k : Nat)) H
theorem mt_tindex : MtR X "tuple.index" (rTIndex X.K) := by
  intro pins s σ H x xs v us Q I rx rs h
  obtain ⟨p, ns, k, rfl, rfl, hq, hk, q⟩ := h
  cases rx
  obtain ⟨u, rfl, t, rfl⟩ := vals1 rs
  obtain ⟨its, rv, tup, hz⟩ := I.tuple hq
  have nums := rv.ints
  refine SeqAt.call_tuple_index (ks := ns) (k := k) tup ⟨nums.length, fun j h1 h2 => ?_⟩ hk ⟨.int _, H, I.tok _, ⟨_, rfl⟩, q⟩
  obtain ⟨t', e⟩ := nums.int_at j its[j] (List.getElem?_eq_getElem h1)
  rw [e, show (ns.getD j 0) = ns[j] by rw [List.getD_eq_getElem?_getD, List.getElem?_eq_getElem h2]; rfl]
  exact SeqAt.EqAt.int_int _ _ _ _
/-- the receiver is a plain tuple -/
def isTup (d : DV) : Prop := ∃ ps, d = .imm (.tuple ps)
def dBMT (g : DM) (do' : DTE) (da : DTA) : DTE := fun S R => do' S fun x S1 => isTup x ∧ da S1 fun ds S2 => g x ds S2 R
theorem snd_tindex {P : Program} {w : World} {K : PySem.W.Frag} : SndM P w K (rTIndex K) (gIndexI false) := fun B S σ ts H x dx xs ds R Q hl h hd k => by
  unfold gIndexI at hd
  split at hd
  · rename_i b es d e
    obtain ⟨rfl, hd⟩ := hd
    split at hd
    · rename_i ns z e1 e2
      match xs, hl with
      | [y], _ =>
        obtain ⟨F, α, h⟩ := h
        have hy := h.tm (y, d) (by simp)
        rw [int?_eq e2] at hy
        have ey := vok_int hy
        dsimp only at ey
        subst ey
        obtain ⟨p, ys, ex, hq, hp⟩ := h.seq (h.tm (x, dx) (by simp)) e
        dsimp only at ex
        subst ex
        have hq' : SqT K H p ys := hq
        rw [allI_ok hp e1] at hq'
        exact ⟨p, ns, z, rfl, rfl, hq', hd.1, k _ _ S H hd.2 ((h.sub fun p hp => by simp [hp]).add vint).ok⟩
    · exact hd.elim
  · exact hd.elim
theorem de_tindex {o e : Expr} {apos cpos : Pos} {do' : DTE} {da : DTA} (ho : DE X o do') (ha : DA X [e] da)
    (hbase : attributeBase o "index" X.env (eval o X.env) = eval o X.env := by rfl)
    (hfew : ((backTo cpos (starEach [e] X.env)).all (fun x => !x.1) && (backToKw cpos (keywordEach [] X.env)).all (fun x => x.1.isSome)
      && decide ([e].length + ([] : List Keyword).length + (if ([] : List Keyword).isEmpty then 0 else 1) < 30)) = true := by rfl)
    (hline : (apos.endLine == cpos.line) = true := by rfl) (hs : starEach [e] X.env = (false, eval e X.env) :: starEach [] X.env := by rfl) (hplain : (backTo cpos (starEach [] X.env)).any (·.1) = false := by rfl) :
    DE X (.Call (.Attribute o "index" apos) [e] [] cpos) (dBMT (gIndexI false) do' da) := by
  obtain ⟨to, o1, o2⟩ := ho.ex
  obtain ⟨ta, a1, a2⟩ := ha.ex
  refine ⟨_, pe_bmT PySem.F.plainAttrs_tuple PySem.F.slot_tuple_index PySem.F.type_tuple_index mt_tindex o1 a1 hbase hfew hline hs hplain, fun B S σ ts H R Q h hd k => o2 B S σ ts H _ _ h hd fun x dx S1 H1 q o => ?_⟩
  obtain ⟨⟨ps, rfl⟩, q⟩ := q
  obtain ⟨F, α, o⟩ := o
  obtain ⟨p, ys, rfl, tz, _⟩ := rp_tup (α := α) o.top
  exact ⟨⟨p, ys, rfl, tz.up o.fh⟩, a2 B S1 σ _ H1 _ _ o.ok q fun vs ds S2 H2 hl q2 o2 => snd_tindex B S2 σ ts H2 _ _ vs ds R Q hl o2 q2 k⟩
end
end DL

set_option Elab.async false
set_option linter.all false
set_option maxRecDepth 100000
set_option autoImplicit false
set_option maxHeartbeats 2000000
namespace DL
open PySem PySem.Spec L2 PyProof.Rows

/-! ## a, b, c, d = w, x, y, z -/
def setN : DSt → List Nat → List DV → Option DSt
  | S, [], [] => some S
  | S, j :: js, d :: ds => setN (S.set j d) js ds
  | _, _, _ => none
def gNames : List Nat → TGs
  | [] => gNil
  | j :: js => gCons (gName j) (gNames js)
def dParN (js : List Nat) (da : DTA) : DTS := fun D S => da S fun ds S1 => ds.length ≤ sizeLine ∧ match setN S1 js ds with
  | some S2 => D.nx S2
  | none => False
section
variable {P : Program} {w : World} {K : PySem.W.Frag} {B : Bs} {σ : L2.St} {ts : List (V × DV)} {H F : Hp} {α : List Addr}
theorem setN_len : ∀ {js : List Nat} {ds : List DV} {S S2 : DSt}, setN S js ds = some S2 → ds.length = js.length
  | [], [], _, _, _ => rfl
  | [], _ :: _, _, _, h => by cases h
  | _ :: _, [], _, _, h => by cases h
  | j :: js, d :: ds, S, S2, h => by rw [List.length_cons, List.length_cons, setN_len (show setN (S.set j d) js ds = some S2 from h)]
theorem names_run : ∀ {js : List Nat} {ds : List DV} {xs : List V} {S S2 : DSt} {σ : L2.St} {Q : L2.St → Hp → Prop}, Paired (VOk P w K F α) xs ds → setN S js ds = some S2 → StAt P w K B S σ ts H F α →
    (∀ σ', StAt P w K B S2 σ' ts H F α → Q σ' H) → gNames js xs σ H Q
  | [], [], _, _, _, _, _, hp, h, o, k => by cases hp; cases h; exact ⟨rfl, k _ o⟩
  | [], _ :: _, _, _, _, _, _, _, h, _, _ => by cases h
  | _ :: _, [], _, _, _, _, _, _, h, _, _ => by cases h
  | j :: js, d :: ds, _, S, S2, σ, Q, .cons h1 t, h, o, k => ⟨_, _, rfl, names_run t (show setN (S.set j d) js ds = some S2 from h) (o.setSlot h1) k⟩
theorem args_zip : ∀ {xs : List V} {ds : List DV}, xs.length = ds.length → (∀ p ∈ xs.zip ds, VOk P w K F α p.1 p.2) → Paired (VOk P w K F α) xs ds
  | [], [], _, _ => .nil
  | [], _ :: _, h, _ => by simp at h
  | _ :: _, [], h, _ => by simp at h
  | x :: xs, d :: ds, h, q => .cons (q (x, d) (by simp)) (args_zip (by simpa using h) fun p hp => q p (by simp [hp]))
end
section
variable {X : Cx} {es es' : List Expr} {js : List Nat} {da : DTA} {pt p2 pos : Pos} {kt k2 : Nat}
theorem ds_parN (hc : X.calm = true) (ha : DA X es' da) (hg : PGs X es (gNames js)) (hn : (assignEach es X.env).length = js.length := by rfl) (hst : (assignEach es X.env).findIdx? (·.1) = none := by rfl)
    (hs : swapsWithSole [.Tuple es kt pt] (.Tuple es' k2 p2) pos.line X.env = pure false := by rfl) (hw : swappedStores [.Tuple es kt pt] (.Tuple es' k2 p2) X.env = pure none := by rfl)
    (h1 : (assignEach [.Tuple es kt pt] X.env).map (·.2) = [assign (.Tuple es kt pt) X.env] := by rfl) : DS X (.Assign [.Tuple es kt pt] (.Tuple es' k2 p2) pos) (dParN js da) := by
  obtain ⟨t, a1, a2⟩ := ha.ex
  refine ⟨_, ps_asg (pe_tupZ a1) (pg_tup hc hg hn hst) hs hw h1, fun B S σ ts H D G h hd l => a2 B S σ ts H _ _ h hd fun vs ds S1 H1 hl q o => ?_⟩
  obtain ⟨hz, q⟩ := q
  refine ⟨by rw [hl]; exact hz, fun p ob hp ho => ?_⟩
  cases e : setN S1 js ds with
  | none => rw [e] at q; exact q.elim
  | some S2 =>
    rw [e] at q
    obtain ⟨F, α, o⟩ := o
    have o2 := o.lay (o := .frz ob (.tup vs)) hp
    have hpr := args_zip (F := upd F p (.frz ob (.tup vs))) hl fun z hz => o2.tm z (List.mem_append_left _ hz)
    exact ⟨p, vs, rfl, .inl (.inr ⟨ob, upd_same⟩), by rw [hl]; exact setN_len e, names_run hpr e o2 fun σ' o3 => l.nx S2 σ' _ q (o3.sub memA).ok⟩
/-- three names, the values swapped on the stack -/
theorem ds_par3 {i j l : Nat} {x y z : Str} {a b c : Expr} {px py pz : Pos} (hc : X.calm = true) (hN : X.N.Nodup) (hi : X.N[i]? = some x) (hj : X.N[j]? = some y) (hl : X.N[l]? = some z) (hij : i ≠ j) (hil : i ≠ l) (hjl : j ≠ l)
    (hx : X.env.scope.names.lookup x = some .local) (hy : X.env.scope.names.lookup y = some .local) (hz : X.env.scope.names.lookup z = some .local) (ha : DA X [a, b, c] da)
    (hw : swappedStores [.Tuple [.Name x px, .Name y py, .Name z pz] kt pt] (.Tuple [a, b, c] k2 p2) X.env = pure (some [x, y, z]))
    (hs : swapsWithSole [.Tuple [.Name x px, .Name y py, .Name z pz] kt pt] (.Tuple [a, b, c] k2 p2) pos.line X.env = pure false := by rfl) :
    DS X (.Assign [.Tuple [.Name x px, .Name y py, .Name z pz] kt pt] (.Tuple [a, b, c] k2 p2) pos) (dParN [i, j, l] da) := by
  obtain ⟨t, a1, a2⟩ := ha.ex
  refine ⟨_, ps_par3 hc hN hi hj hl hij hil hjl hx hy hz a1 hw hs, fun B S σ ts H D G h hd lf => a2 B S σ ts H _ _ h hd fun vs ds S1 H1 hlen q o => ?_⟩
  obtain ⟨_, q⟩ := q
  match ds, q with
  | [d1, d2, d3], q =>
    match vs, hlen with
    | [u, v, w], _ =>
      obtain ⟨F, α, o⟩ := o
      have h1 := o.tm (u, d1) (by simp)
      have h2 := o.tm (v, d2) (by simp)
      have h3 := o.tm (w, d3) (by simp)
      exact ⟨u, v, w, rfl, lf.nx _ _ H1 q ((((o.setSlot h1).setSlot h2).setSlot h3).sub memA).ok⟩
/-! ## {} -/
def dNewD : DTE := fun S R => R (.cell S.μ.length) (S.new (.dic []))
theorem de_newD : DE X (.Dict [] [] pos) dNewD := ⟨_, pe_view pe_dnewK, fun B S σ ts H R Q h hd k => by
  obtain ⟨F, α, o⟩ := h
  intro p hp
  have o1 := o.free (o := .dK []) (fun q => o.an p q hp) (o.freeF hp) (o.freshB hp)
  refine ⟨p, [], rfl, upd_same, ?_⟩
  have e2 : upd (upd H p (.dK [])) p (DicO X.prog X.w p (lfs [])) = upd H p (DicO X.prog X.w p []) := by
    funext b
    unfold upd
    by_cases c : b = p
    · rw [if_pos c, if_pos c]; rfl
    · rw [if_neg c, if_neg c, if_neg c]
  rw [e2]
  exact k _ _ _ _ hd ((o.cellNew (o := DicO X.prog X.w p []) (u := .dic []) hp ⟨[], upd_same, .nil⟩).add (d := .cell S.μ.length) ⟨p, by rw [← o.al, List.getElem?_append_right (Nat.le_refl _), Nat.sub_self]; rfl, rfl⟩).ok⟩
end
end DL

set_option Elab.async false
set_option linter.all false
set_option maxRecDepth 100000
set_option autoImplicit false
set_option maxHeartbeats 2000000
namespace DL
open PySem PySem.Spec L2 PyProof.Rows

/-! ## more readings, run -/
section
variable {P : Program} {w : World} {K : PySem.W.Frag} {S : DSt} {R : DV → DSt → Prop} {RS : DSt → Prop} {RB : Bool → DSt → Prop} {RI : List DY → (DSt → Prop) → DSt → Prop} {RR : Int → Int → DSt → Prop} {RO : Option Int → DSt → Prop} {D : DEnds} {x y d : DV} {k : Nat} {es fs : List DV} {ps : List PyData} {m n : Int} {da db dc : DTE} {dr : DTA} {rg : DTR} {dl dh : DTO} {c dt : DTT} {ds : DTS} {dsp : DSp}
theorem r_pow (h : PowOk m n) (q : R (dI (m ^ n.toNat)) S) : gPow (dI m) (dI n) S R := ⟨h, q⟩
def kPut (RS : DSt → Prop) (v : DV) : DV → DV → DSt → Prop := fun o i S => match o with
  | .cell k => gPut k i v S RS
  | _ => False
theorem r_dput (h : da S fun v S1 => db S1 fun o S2 => dc S2 fun i S3 => kPut D.nx v o i S3) : dPut da db dc D S := h
theorem r_putL {i : Nat} {v : DV} (e : S.cell k = some (.lst es)) (hi : ixN es.length n = some i) (h : RS (S.put k (.lst (es.set i v)))) : kPut RS v (.cell k) (dI n) S := by
  show gPut k (dI n) v S RS
  unfold gPut
  rw [e]
  dsimp only
  rw [show (dI n).int? = some n from rfl]
  dsimp only
  rw [hi]; exact h
theorem r_putD {v : DV} {kvs : List (Leaf × DV)} {l : Leaf} (e : S.cell k = some (.dic kvs)) (hk : keyOf x = some l) (hz : kvs.length < sizeLine) (h : RS (S.put k (.dic (putG kvs l v)))) : kPut RS v (.cell k) x S := by
  show gPut k x v S RS
  unfold gPut
  rw [e]
  dsimp only
  rw [hk]; exact ⟨hz, h⟩
theorem r_atC {e : DV} (hc : S.cell k = some (.lst es)) (hi : atI es n = some e) (q : R e S) : gAt (.cell k) (dI n) S R := r_at (nodict_cell hc) (seq_cell hc) hi q
theorem r_lenC (hc : S.cell k = some (.lst es)) (q : R (dI es.length) S) : gLenA [.cell k] S R := r_len (nodict_cell hc) (seq_cell hc) q
theorem r_mulL {j : Int} {a : List DV} (e : S.lst x = some a) (hj : 0 ≤ j ∧ j < 2 ^ 63 ∧ a.length * j.toNat ≤ sizeLine) (ei : allImm a = some ps) (q : R (.cell S.μ.length) (S.new (.lst ((List.replicate j.toNat ps).flatten.map DV.imm)))) : gOr gMul gMulC x (dI j) S R := .inr (by
  unfold gMulC
  rw [e, show (dI j).int? = some j from rfl]
  dsimp only
  rw [ei]
  exact ⟨hj, q⟩)
theorem r_tupOf (e : S.seq x = some (true, es)) (ei : allImm es = some ps) (q : R (.imm (.tuple ps)) S) : gTupOf [x] S R := by
  unfold gTupOf
  dsimp only
  rw [e]
  dsimp only
  rw [ei]; exact q
theorem r_listOf {b : Bool} (e : S.seq x = some (b, es)) (ei : allImm es = some ps) (q : R (.imm (.list ps)) S) : gListOf [x] S R := by
  unfold gListOf
  dsimp only
  rw [e]
  dsimp only
  rw [ei]; exact .inl q
theorem r_listOfC {b : Bool} (e : S.seq x = some (b, es)) (q : R (.cell S.μ.length) (S.new (.lst es))) : gListOf [x] S R := by
  unfold gListOf
  dsimp only
  rw [e]
  exact .inr q
theorem r_pop (e : S.cell k = some (.lst es)) (hd : es[es.length - 1]? = some d) (q : R d (S.put k (.lst es.dropLast))) : gPop (.cell k) [] S R := by
  unfold gPop
  dsimp only
  rw [e]
  dsimp only
  rw [hd]; exact q
theorem r_popAt (e : S.cell k = some (.lst es)) (h0 : 0 ≤ n) (h1 : n < 2 ^ 63) (hd : es[n.toNat]? = some d) (q : R d (S.put k (.lst (es.eraseIdx n.toNat)))) : gPopAt (.cell k) [dI n] S R := by
  unfold gPopAt
  dsimp only
  rw [e, show (dI n).int? = some n from rfl]
  dsimp only
  rw [hd]; exact ⟨h0, h1, q⟩
def kSl (R : DV → DSt → Prop) (x : DV) (lo hi : Option Int) : DSt → Prop := fun S => gSl x lo hi S R
theorem r_sl (h : da S fun x S1 => dl S1 fun lo S2 => dh S2 fun hi S3 => kSl R x lo hi S3) : dSl da dl dh S R := h
theorem r_noPart (q : RO none S) : dNoPart S RO := q
def kPart (RO : Option Int → DSt → Prop) : DV → DSt → Prop := fun x S1 => match x.int? with
  | some i => RO (some i) S1
  | none => False
theorem r_part (h : da S (kPart RO)) : dPart da S RO := h
theorem r_kPart (q : RO (some n) S) : kPart RO (dI n) S := q
theorem r_kSl {b : Bool} {lo hi : Option Int} (e : S.seq x = some (b, es)) (ei : allImm es = some ps) (q : R (.imm (if b = true then .list (cutD ps lo hi) else .tuple (cutD ps lo hi))) S) : kSl R x lo hi S := by
  unfold kSl gSl
  rw [e]
  dsimp only
  rw [ei]; exact q
/-! ranges -/
def kRg1 (RR : Int → Int → DSt → Prop) : DV → DSt → Prop := fun x S1 => match x.int? with
  | some j => RR 0 j S1
  | none => False
theorem r_rg1 (h : da S (kRg1 RR)) : dRg1 da S RR := h
theorem r_kRg1 (q : RR 0 n S) : kRg1 RR (dI n) S := q
def kRg2 (RR : Int → Int → DSt → Prop) (x : DV) : DV → DSt → Prop := fun y S2 => match x.int?, y.int? with
  | some i, some j => RR i j S2
  | _, _ => False
theorem r_rg2 (h : da S fun x S1 => db S1 (kRg2 RR x)) : dRg2 da db S RR := h
theorem r_kRg2 (q : RR m n S) : kRg2 RR (dI m) (dI n) S := q
def kRev (RI : List DY → (DSt → Prop) → DSt → Prop) : Int → Int → DSt → Prop := fun a b S1 => (-(2 ^ 62) ≤ a ∧ a < 2 ^ 62 ∧ -(2 ^ 62) ≤ b ∧ b < 2 ^ 62) ∧ RI (rangeCD (a + (((b - a).toNat : Nat) : Int) - 1) (-1) (b - a).toNat) (fun _ => True) S1
theorem r_rev (h : rg S (kRev RI)) : diRevR rg S RI := h
theorem r_kRev (hb : -(2 ^ 62) ≤ m ∧ m < 2 ^ 62 ∧ -(2 ^ 62) ≤ n ∧ n < 2 ^ 62) (q : RI (rangeCD (m + (((n - m).toNat : Nat) : Int) - 1) (-1) (n - m).toNat) (fun _ => True) S) : kRev RI m n S := ⟨hb, q⟩
def kLstRg (R : DV → DSt → Prop) : Int → Int → DSt → Prop := fun a b S1 => RgOk a b ∧ (R (.imm (.list (rgD a b))) S1 ∨ R (.cell S1.μ.length) (S1.new (.lst ((rgD a b).map DV.imm))))
theorem r_lstRg (h : rg S (kLstRg R)) : dLstRg rg S R := h
theorem r_kLstRg (hb : RgOk m n) (q : R (.imm (.list (rgD m n))) S) : kLstRg R m n S := ⟨hb, .inl q⟩
def kTupRg (R : DV → DSt → Prop) : Int → Int → DSt → Prop := fun a b S1 => RgOk a b ∧ R (.imm (.tuple (rgD a b))) S1
theorem r_tupRg (h : rg S (kTupRg R)) : dTupRg rg S R := h
theorem r_kTupRg (hb : RgOk m n) (q : R (.imm (.tuple (rgD m n))) S) : kTupRg R m n S := ⟨hb, q⟩
theorem r_newD (q : R (.cell S.μ.length) (S.new (.dic []))) : dNewD S R := q
/-! a call that hands over one cell -/
theorem r_callC {o : DO} {es es' : List DV} (hk : k < S.μ.length) (hr : renDs [k] es = some es') (hc : cellsOf S.μ [k] = [some o]) (q : dsp es' [some o] (retK R S [k])) : ∃ ks, kCall dsp R (es ++ []) S ks := ⟨[k], by
  unfold kCall
  rw [List.append_nil, hr]
  refine ⟨by simp, fun j hj => by rw [List.mem_singleton.mp hj]; exact hk, ?_⟩
  rw [hc]
  exact q⟩
/-- what comes back: data, and the cell as it is now -/
theorem r_retC {p : PyData} {o : DO} {μ' : List (Option DO)} (hb : o.bare = true) (hm : μ'[0]? = some (some o)) (q : R (.imm p) ⟨S.ρ, S.μ.set k (some o)⟩) : retK R S [k] (.imm p) μ' := by
  show R (.imm p) ⟨S.ρ, backs S.μ [k] μ'⟩
  have e : backs S.μ [k] μ' = S.μ.set k (some o) := by
    show S.μ.set k _ = _
    rw [hm]
    dsimp only
    rw [if_pos hb]
  rw [e]; exact q
/-! one road for many: what is known behind a reading, said once -/
theorem r_cases {de : DTE} (Y : DV → DSt → Prop) (h1 : ∀ R' : DV → DSt → Prop, (∀ d S', Y d S' → R' d S') → de S R') (h2 : ∀ d S', Y d S' → R d S') : de S R := h1 R h2
theorem r_casesS (Y : DSt → Prop) (h1 : ∀ nx : DSt → Prop, (∀ S', Y S' → nx S') → ds { D with nx := nx } S) (h2 : ∀ S', Y S' → D.nx S') : ds D S := h1 D.nx h2
/-- a bool that changes nothing, whatever it is -/
theorem r_bool {de : DTE} (Pb : Bool → Prop) (h1 : ∀ R' : DV → DSt → Prop, (∀ b, Pb b → R' (dB b) S) → de S R') (h2 : ∀ b, Pb b → R (dB b) S) : de S R := h1 R h2
theorem shaped_ints (ns : List Int) : SeqAt.shaped (.list (ns.map PyData.int)) = true := by
  have h : ∀ ns : List Int, PyData.canLayAll0 (ns.map PyData.int) = true ∧ PyData.depthAll (ns.map PyData.int) = 0 := by
    intro ns
    induction ns with
    | nil => exact ⟨rfl, rfl⟩
    | cons n ns ih => exact ⟨by simp [PyData.canLayAll0, PyData.canLay0, ih.1], by simp [PyData.depthAll, PyData.depth, ih.2]⟩
  obtain ⟨a, b⟩ := h ns
  simp [SeqAt.shaped, PyData.canLay0, PyData.depth, a, b]
theorem eqv_nil (ns : List Int) : PyData.eqv (.list (ns.map PyData.int)) (.list []) = decide (ns = []) := by
  cases ns with
  | nil => simp [PyData.eqv, PyData.eqvAll]
  | cons n ns => simp [PyData.eqv, PyData.eqvAll]
theorem r_eqNil {ns : List Int} (q : R (dB (decide (ns = []))) S) : gEqX (.imm (.list (ns.map PyData.int))) (.imm (.list [])) S R := by
  refine r_eq (fun _ z => nomatch z) ?_ ?_
  · rw [shaped_ints]; rfl
  · rw [eqv_nil]; exact q
theorem dat_ints {ns : List Int} (e : S.cell k = some (.lst (ns.map dI))) : S.dat (.cell k) = some (.list (ns.map PyData.int)) := by
  show (match S.cell k with | some (.lst ds) => (allImm ds).map PyData.list | _ => none) = _
  rw [e]
  have : allImm (ns.map dI) = some (ns.map PyData.int) := by
    have := allImm_map (ns.map PyData.int)
    rwa [List.map_map] at this
  show (allImm (ns.map dI)).map PyData.list = _
  rw [this]; rfl
theorem r_neNilC {ns : List Int} (e : S.cell k = some (.lst (ns.map dI))) (q : R (dB (!decide (ns = []))) S) : gNeX (.cell k) (.imm (.list [])) S R := by
  refine r_neL rfl (dat_ints e) rfl ?_ ?_
  · rw [shaped_ints]; rfl
  · rw [eqv_nil]; exact q
theorem r_addLI {a b : List PyData} (hz : a.length + b.length ≤ sizeLine) (q : R (.imm (.list (a ++ b))) S) : gOr gAdd gAddC (.imm (.list a)) (.imm (.list b)) S R := .inl (by
  show (a.map DV.imm).length + (b.map DV.imm).length ≤ sizeLine ∧ match allImm (a.map DV.imm ++ b.map DV.imm) with | some ps => R (.imm (.list ps)) S | none => False
  rw [← List.map_append, allImm_map]
  exact ⟨by simpa using hz, q⟩)
/-! in, not in, over ints -/
theorem inD_int (z : Int) (ns : List Int) : inD (.int z) (ns.map PyData.int) = decide (z ∈ ns) := by
  unfold inD
  induction ns with
  | nil => simp
  | cons n ns ih =>
    rw [List.map_cons, List.any_cons, ih]
    by_cases c : z = n
    · subst c; simp [PyData.eqv]
    · have : ¬ n = z := fun e => c e.symm
      simp [PyData.eqv, c, this]
theorem r_inI {neg b : Bool} {z : Int} {ns : List Int} (hd : S.dict y = none) (e : S.seq y = some (b, es)) (hi : allI es = some ns) (q : R (dB (if neg = true then !decide (z ∈ ns) else decide (z ∈ ns))) S) : gInA neg (dI z) y S R := by
  have ei : ∀ {es : List DV} {ns : List Int}, allI es = some ns → allImm es = some (ns.map PyData.int) := by
    intro es
    induction es with
    | nil => intro ns h; cases h; rfl
    | cons e es ih =>
      intro ns h
      cases e with
      | imm d =>
        cases d with
        | int i =>
          have h' : (allI es).map (i :: ·) = some ns := h
          obtain ⟨l, l1, l2⟩ := Option.map_eq_some_iff.mp h'
          subst l2
          show (allImm es).map _ = _
          rw [ih l1]; rfl
        | _ => cases h
      | _ => cases h
  unfold gInA
  rw [hd]
  dsimp only
  unfold gIn
  rw [show (dI z).imm? = some (.int z) from rfl, e]
  dsimp only
  rw [ei hi]
  dsimp only
  rw [inD_int]
  refine ⟨.inl ?_, q⟩
  rw [Bool.and_eq_true]
  exact ⟨rfl, by rw [List.all_map]; exact List.all_eq_true.mpr fun _ _ => rfl⟩
/-! while -/
theorem r_while (I : Nat → DSt → Prop) (m : Nat) (h0 : I m S) (hs : ∀ m S1, I m S1 → dt S1 fun b S2 => if b = true then ds { D with nx := fun S3 => ∃ m', m' < m ∧ I m' S3, ct := fun S3 => ∃ m', m' < m ∧ I m' S3, bk := D.nx } S2 else D.nx S2) : dWhile dt ds D S := ⟨I, ⟨m, h0⟩, hs⟩
def kPar (i j : Nat) (RS : DSt → Prop) : List DV → DSt → Prop := fun ds S1 => match ds with
  | [d, e] => RS ((S1.set i d).set j e)
  | _ => False
theorem r_par {i j : Nat} (h : dr S (kPar i j D.nx)) : dPar i j dr D S := h
theorem r_kPar {i j : Nat} (h : RS ((S.set i x).set j y)) : kPar i j RS [x, y] S := h
def kParN (js : List Nat) (RS : DSt → Prop) : List DV → DSt → Prop := fun ds S1 => ds.length ≤ sizeLine ∧ match setN S1 js ds with
  | some S2 => RS S2
  | none => False
theorem r_parN {js : List Nat} (h : dr S (kParN js D.nx)) : dParN js dr D S := h
theorem r_kParN {js : List Nat} {es : List DV} {S2 : DSt} (hz : es.length ≤ sizeLine) (e : setN S js es = some S2) (h : RS S2) : kParN js RS es S := ⟨hz, by rw [e]; exact h⟩
theorem r_max {m n : Int} {f : Int → Int → Int} (q : R (dI (f m n)) S) : gII2 f [dI m, dI n] S R := q
end
end DL

set_option Elab.async false
set_option linter.all false
set_option maxRecDepth 100000
set_option autoImplicit false
set_option maxHeartbeats 2000000
namespace DL
open PySem PySem.Spec L2 PyProof.Rows

/-! ## a value that is data from now on: freezing as it is read -/
def dFzE (P : Program) (w : World) (K : PySem.W.Frag) (de : DTE) : DTE := fun S R => de S fun d S1 => ∃ d' S', Wk P w K d S1 d' S' ∧ R d' S'
section
variable {X : Cx} {e : Expr} {de : DTE}
theorem DE.fz (h : DE X e de) : DE X e (dFzE X.prog X.w X.K de) := by
  obtain ⟨t, a1, a2⟩ := h.ex
  refine ⟨t, a1, fun B S σ ts H R Q o hd k => a2 B S σ ts H _ _ o hd fun v d S1 H1 q o => ?_⟩
  obtain ⟨d', S', hw, q⟩ := q
  obtain ⟨F, α, o⟩ := o
  obtain ⟨F', o', v', ex⟩ := hw B σ ts H1 v F α (o.sub mem1) o.top
  exact k v d' S' H1 q (o'.add v').ok
end
section
variable {P : Program} {w : World} {K : PySem.W.Frag} {S : DSt} {R : DV → DSt → Prop} {de : DTE} {d : DV} {p : PyData}
theorem r_fz (h : de S fun d S1 => ∃ d' S', Wk P w K d S1 d' S' ∧ R d' S') : dFzE P w K de S R := h
theorem r_fzVar {i k : Nat} {es : List DV} {ps : List PyData} (hg : S.get i = some (.cell k)) (hc : S.cell k = some (.lst es)) (ei : allImm es = some ps) (q : R (.imm (.list ps)) (S.less [k])) : dFzE P w K (dVar i) S R := by
  refine r_fz (r_var hg ⟨_, _, .fix [k] (.lst (by simp) hc (?_ : FzAll S [k] es ps)) , q⟩)
  clear hc q
  induction es generalizing ps with
  | nil => cases ei; exact .nil
  | cons e es ih =>
    cases e with
    | imm a =>
      have h' : (allImm es).map (a :: ·) = some ps := ei
      obtain ⟨l, l1, l2⟩ := Option.map_eq_some_iff.mp h'
      subst l2
      exact .cons (.imm a) (ih l1)
    | _ => cases ei
theorem r_noFz (h : de S R) (hm : Mono de) : dFzE P w K de S R := hm S _ _ (fun d S1 q => ⟨d, S1, .refl, q⟩) h
end
end DL

set_option Elab.async false
set_option linter.all false
set_option maxRecDepth 100000
set_option autoImplicit false
set_option maxHeartbeats 2000000
namespace DL
open PySem PySem.Spec L2 PyProof.Rows

/-! ## len of a set -/
def gLenS (w : World) : DC1 := fun ds S R => match ds with
  | [.obj φ] => ∃ (f : Int → Bool) (c : Nat), (φ = fun b => SetO w b f c) ∧ R (dI c) S
  | _ => False
section
variable {X : Cx}
theorem call_lenS : CallR X (.builtin "len") (fun xs H Q => ∃ (a : Addr) (f : Int → Bool) (c : Nat), xs = [V.ref a] ∧ H a = some (SetO X.w a f c) ∧ Q (.int c) H) := by
  intro pins s σ H xs us Q I r h
  obtain ⟨a, f, c, rfl, ha, q⟩ := h
  obtain ⟨o, es, ep, t, ho, hex, hd, _, _, _, hz, hf, hn, _⟩ := setO_get I ha
  rw [Vals.ref1 r]
  subst hn
  have hz : es.size < 4096 := hz
  exact call_len_set ho hex hd hf (by omega) ⟨.int es.size, H, I.tok _, ⟨_, rfl⟩, q⟩
theorem cd_lenS : CallD X (.builtin "len") (gLenS X.w) := ⟨_, call_lenS, fun B S σ ts H xs ds R Q hl h hd k => by
  unfold gLenS at hd
  split at hd
  · rename_i φ
    match xs, hl with
    | [y], _ =>
      obtain ⟨F, α, h⟩ := h
      obtain ⟨b, rfl, h2⟩ := (show ∃ b, y = .ref b ∧ F b = some (φ b) from h.tm (y, .obj φ) (by simp))
      obtain ⟨f, c, rfl, hd⟩ := hd
      exact ⟨b, f, c, rfl, h.fh _ _ h2, k _ _ S H hd ((h.sub memA).add vint).ok⟩
  · exact hd.elim⟩
end
section
variable {w : World} {S : DSt} {R : DV → DSt → Prop}
theorem r_lenS {f : Int → Bool} {c : Nat} (q : R (dI c) S) : gLenS w [.obj fun b => SetO w b f c] S R := ⟨f, c, rfl, q⟩
/-- x += y for ints -/
theorem r_aug {D : DEnds} {i : Nat} {x : DV} {g : D2} {de : DTE} (e : S.get i = some x) (h : de S fun y S1 => g x y S1 fun z S2 => D.nx (S2.set i z)) : dAug i g de D S := by
  unfold dAug
  rw [e]; exact h
theorem r_gII {f : Int → Int → DV} {m n : Int} (q : R (f m n) S) : gII (fun _ _ => True) f (dI m) (dI n) S R := ⟨trivial, q⟩
theorem r_divmod {m n : Int} (h : DivOk m n) (q : R (.imm (.tuple [.int (m / n), .int (m % n)])) S) : gDivmod [dI m, dI n] S R := ⟨h, q⟩
end
end DL

set_option Elab.async false
set_option linter.all false
set_option maxRecDepth 100000
set_option autoImplicit false
set_option maxHeartbeats 2000000
namespace DL
open PySem PySem.Spec L2 PyProof.Rows

/-! ## {k: v for x in xs}, the keys ints, texts, bools, None -/
/-- what a turn of the block asks: the target is set, the tests asked, and where they hold key and value are stored in D -/
def turnL (P : Program) (w : World) (D : Addr) (g : TG) (tt : TT) (tk tv : TE) (vs : List Nat) (σ0 : L2.St) (Nx : Hp → Prop) (x : V) (H : Hp) : Prop :=
  g x σ0 H fun σ2 H2 => wipe σ2 vs = σ0 ∧ tt σ2 H2 fun b H3 => if b = true then tk σ2 H3 fun y H4 => tv σ2 H4 fun z H5 => ∃ es l, y = kvV l ∧ H5 D = some (DicO P w D es) ∧ es.length < sizeLine ∧ Nx (upd H5 D (DicO P w D (putK es l z))) else Nx H3
def tDcL (P : Program) (w : World) (wi : TI) (g : TG) (tt : TT) (tk tv : TE) (vs : List Nat) : TE := fun σ H Q => wi σ H fun J H1 => ∀ D, H1 D = none → ∃ W : Nat → Nat → Hp → Prop, (∃ m, W 0 m (upd H1 D (DicO P w D []))) ∧
  ∀ i m H, W i m H → (J.stop i H ∧ Q (.ref D) H) ∨ (J.go i H ∧ ∃ Nx : Hp → Prop, (∀ H', Nx H' → ∃ m', m' < m ∧ W (i + 1) m' H') ∧ ∀ x H', J.yld i H x H' → turnL P w D g tt tk tv vs (wipe σ vs) Nx x H')
/-- the turn itself, in whatever context the block stands -/
theorem leaf_turn {Y : Cx} {tg kx vx : Expr} {ifs : List Expr} {g : TG} {tt : TT} {tk tv : TE} {J : It} {fp : List Addr} {it D : Addr} {tn : Nat → Heap → Prop} {vs : List Nat} {σ0 : L2.St} {H : Hp} {s : Shared} {i : Nat} {Nx : Hp → Prop} {N : Shared → Prop} {E : Value → Shared → Prop}
    (hx : Y.xe = fun _ _ => False) (hc : Y.calm = true) (pg : PG Y tg g) (pt : PTs Y ifs tt) (pk : PE Y kx tk) (pv : PE Y vx tv) (T : Turn Y.prog Y.w Y.K tg J fp it tn)
    (fok : ∀ H' : Hp, (∀ b ∈ fp, H' b = none) → ∀ b ∈ fp, FpOk Y [] H' b)
    (I : Inv Y [] σ0 H s) (n : ∀ b ∈ fp, H b = none) (st : tn i s.heap) (go : J.go i H) (ask : ∀ x H', J.yld i H x H' → turnL Y.prog Y.w D g tt tk tv vs σ0 Nx x H')
    (fin : ∀ s' H', Inv Y [] σ0 H' s' → tn (i + 1) s'.heap → (∀ b ∈ fp, H' b = none) → Nx H' → N s') :
    wpAny (model Y.prog Y.w) Y.A (pyNext (.ref it)) (fun r s1 => ∃ u, r = some u ∧ wpAny (model Y.prog Y.w) Y.A (letOwnedTupleGo tg (.ref it) u) (fun _ s2 => wpAny (model Y.prog Y.w) Y.A (assign tg Y.env u) (fun _ s3 =>
      wpAny (model Y.prog Y.w) Y.A (forIn ifs true fun c r => if r = true then do let ok ← isTrue c Y.env (eval c Y.env); pure (ForInStep.yield ok) else pure (ForInStep.yield r)) (fun ok s4 =>
        if ok = true then wpAny (model Y.prog Y.w) Y.A (eval kx Y.env) (fun a s5 => wpAny (model Y.prog Y.w) Y.A (eval vx Y.env) (fun b s6 => wpAny (model Y.prog Y.w) Y.A (dictSet D a b) (fun _ s7 => N s7) E s6) E s5) E s4 else N s4) E s3) E s2) E s1) E s := by
  have quiet : ∀ {α : Type} {t : Sem α} {Q Q' : α → Shared → Prop} {s0 : Shared}, wpAny (model Y.prog Y.w) Y.A t Q Y.xe s0 → (∀ a s', Q a s' → Q' a s') → wpAny (model Y.prog Y.w) Y.A t Q' E s0 := fun h q => thnF (hx ▸ h) q
  refine thnF (T.item Y rfl rfl rfl hc i [] s σ0 H (fun _ _ => False) I (fok H n) st go) fun r s1 hu => ?_
  obtain ⟨u, rfl, hu⟩ := hu
  refine ⟨u, rfl, thnF hu fun _ s2 hy => ?_⟩
  obtain ⟨x, H2, I2, rx, y, st2, n2⟩ := hy
  have objs := T.obj _ _ st2
  have kept := I2.pinned (fok H2 n2) objs
  refine quiet (pg.run _ s2 σ0 H2 x u _ kept rx (ask x H2 y)) fun _ s3 hs => ?_
  obtain ⟨σ3, H3, I3, back, q3⟩ := hs
  have close : ∀ {s' : Shared} {H' : Hp}, Inv Y ([] ++ pinsAt fp s2.heap) σ3 H' s' → Nx H' → N s' := fun {s' H'} I' nx => by
    have stay : ∀ b ∈ fp, H' b = none ∧ ∀ o, s2.heap.get? b = some o → s'.heap.get? b = some o := fun b hb => by
      obtain ⟨o, e, _⟩ := objs b hb
      have p := I'.pin (b, o) (List.mem_append_right _ (List.mem_append_right _ (mem_pinsAt hb e)))
      exact ⟨p.2.1, fun o' e' => (I'.pin (b, o') (List.mem_append_right _ (List.mem_append_right _ (mem_pinsAt hb e')))).1⟩
    refine fin s' H' ?_ (T.keep _ _ _ st2 fun b hb o e => (stay b hb).2 o e) (fun b hb => (stay b hb).1) nx
    have len : σ0.length = σ3.length := by rw [← back, wipe_length]
    exact I'.unpinned.weak len fun j v e => by
      rw [← back] at e
      exact (wipe_some e).1
  refine quiet (pt.run _ s3 σ3 H3 _ I3 q3) fun b s4 hb => ?_
  obtain ⟨H4, I4, q4⟩ := hb
  match b, q4 with
  | false, q4 => exact close I4 q4
  | true, q4 =>
    refine quiet (pk.run _ s4 σ3 H4 _ I4 q4) fun a s5 ha => ?_
    obtain ⟨ya, H5, I5, ra, q5⟩ := ha
    refine quiet (pv.run _ s5 σ3 H5 _ I5 q5) fun c s6 hz => ?_
    obtain ⟨yc, H6, I6, rc, es, l, el, hD, hz, nx⟩ := hz
    subst el
    exact dz_dictSet I6 hD hz ra rc fun s7 I7 => close I7 nx
section
variable {X : Cx}
theorem pe_dcL {kx vx tg iter : Expr} {ifs : List Expr} {scope : Scope} {own : List (Str × Nat)} {pos : Pos} {wi : TI} {g : TG} {tt : TT} {tk tv : TE} (hc : X.calm = true) (hN : X.N.Nodup) (hi : PI X tg iter wi) (ok : BlkOk X.N X.env.scope scope own)
    (inner : ∀ (s : Shared) (H : Hp) (C : Addr) (cl : List (Str × Addr)) (fp : List Addr), let Y := X.blk s H scope (compEnvC scope cl C X.env) fp; PG Y tg g ∧ PTs Y ifs tt ∧ PE Y kx tk ∧ PE Y vx tv) (hs : ∀ x, foldedSetIterable iter X.env x = pure x := by intro _; rfl) :
    PE X (.DictComp kx vx [⟨tg, iter, ifs, 0⟩] scope pos) (tDcL X.prog X.w wi g tt tk tv (own.map (·.2))) := by
  refine ⟨fun pins s σ H Q I h => ?_⟩
  have clo : ∀ y ∈ scope.names, y.2 = .free → ∃ c, X.env.cells.lookup y.1 = some c := fun y hy e => I.ok.has _ ((ok.free y hy e).imp id id)
  rw [arm_eval_DictComp]
  refine wpAny_comprehension_free (use := none) rfl hs (closure_ok clo) ok.kind (fun y hy e => by rw [ok.uniq y hy, e]) ?_
  refine thn (hi.run pins s σ H _ I h) fun _ _ hx => thn hx fun itv s1 hp => ?_
  obtain ⟨it, fp, tn, J, H1, rfl, I1, T, st, f1, q⟩ := hp
  -- the dict, then the block's own frame
  have top : H1 s1.heap.objs.size = none := I1.hok.fresh (Nat.le_refl _)
  obtain ⟨W, ⟨m0, w0⟩, turns⟩ := q _ top
  refine wpAny_newObj_type (newEnv_comp ?_)
  generalize eD : s1.heap.objs.size = D at top w0 turns ⊢
  let H2 : Hp := upd H1 D (DicO X.prog X.w D [])
  let s2 : Shared := { s1 with heap := s1.heap.push { cls := .type "dict", data := .dict #[] } }
  have old : ∀ b o, s1.heap.get? b = some o → s2.heap.get? b = some o := fun b o e => Heap.get?_push_of_some _ e
  have I2 : Inv X pins σ H2 s2 := by
    refine I1.laid (t' := s1.toks) old (Nat.le_of_eq eD) ?_
    have := dz_empty (X := X) (H := H1) s1.heap I1.big
    rw [eD] at this
    exact this
  have young : ∀ b ∈ fp, b < s1.heap.objs.size := fun b hb => let ⟨_, e, _⟩ := T.obj _ _ st b hb; Heap.lt_size e
  have f2 : ∀ b ∈ fp, FpOk X pins H2 b ∧ b < s2.heap.objs.size := fun b hb => by
    have lt := young b hb
    have ne : b ≠ D := Nat.ne_of_lt (eD ▸ lt)
    obtain ⟨z0, z1⟩ := f1 b hb
    exact ⟨⟨(upd_ne ne).trans z0, z1⟩, by show b < (s1.heap.push _).objs.size; rw [Heap.size_push]; exact Nat.lt_succ_of_lt lt⟩
  have IB := block_start I2 ok hN f2
  let C : Addr := s2.heap.objs.size
  let Y : Cx := X.blk s2 H2 scope (compEnvC scope (cellsFrom (C + 1) scope.names (cloFrom X.env.cells scope.names [])) C X.env) fp
  obtain ⟨pg, pt, pk, pv⟩ := inner s2 H2 C (cellsFrom (C + 1) scope.names (cloFrom X.env.cells scope.names [])) fp
  have stB : tn 0 (pushCells (s2.heap.push { cls := .type "dict", data := .dict #[] }) scope.names) := T.keep _ _ _ st fun b _ o e => pushCells_keeps _ _ _ _ (Heap.get?_push_of_some _ (old b o e))
  have fY : ∀ {σ' : L2.St} {s' : Shared} {H0 : Hp}, Inv Y [] σ' H0 s' → ∀ H' : Hp, (∀ b ∈ fp, H' b = none) → ∀ b ∈ fp, FpOk Y [] H' b := fun I' H' n b hb =>
    let z := I'.ok.exf b hb
    ⟨n b hb, z.1, I'.ok.exfs b hb, .inl hb, fun x c e => z.2 x c e, fun p hp => nomatch hp⟩
  have run : codeAny (model X.prog X.w) X.A (.compLoop (.DictComp kx vx [⟨tg, iter, ifs, 0⟩] scope pos) 0 (.ref it) (.ref D) Y.env) (compPost (model X.prog X.w) X.A X.xe none (EP X pins σ Q) (.ref D) C)
      { s2 with heap := pushCells (s2.heap.push { cls := .type "dict", data := .dict #[] }) scope.names } := by
    refine compLoop_anyD (fun n s' => ∃ i H', W i n H' ∧ Inv Y [] (wipe σ (own.map (·.2))) H' s' ∧ tn i s'.heap ∧ ∀ b ∈ fp, H' b = none) ?_ m0 ⟨0, H2, w0, IB, stB, fun b hb => (f2 b hb).1.1⟩
    rintro n s3 ⟨i, H3, w3, I3, st3, n3⟩
    rcases turns i n H3 w3 with ⟨stop, end_⟩ | ⟨go, Nx, next, ask⟩
    · refine thnF (T.done Y rfl rfl rfl hc i [] s3 _ H3 (fun _ _ => False) I3 (fY I3 H3 n3) st3 stop) fun r s4 hr => ?_
      obtain ⟨rfl, I4⟩ := hr
      -- the def goes on where the block stood
      have IX : Inv X pins σ H3 s4 := I2.call' (ch := fp) I4.os I4.base I4.hok I4.bare fun b hb => ⟨(f2 b hb).1.2.2.2.1, (f2 b hb).1.2.1, (f2 b hb).1.2.2.2.2.1, (f2 b hb).1.2.2.2.2.2⟩
      have nC : H3 C = none := I4.free
      obtain ⟨m, hm, _⟩ := I4.loc
      obtain ⟨z0, z1, _, z3, z4, z5⟩ := I2.fpOk (b := C) (Nat.le_refl _) nC
      exact ⟨m, hm, fun h' sb => ⟨.ref D, H3, IX.turned (t' := s4.toks) (fun b o hb e => (sb.2 b hb).trans e) z0 z1 z3 z4 z5, rfl, end_⟩⟩
    · refine thn (leaf_turn (Y := Y) (N := fun s' => ∃ m, m < n ∧ ∃ i H', W i m H' ∧ Inv Y [] (wipe σ (own.map (·.2))) H' s' ∧ tn i s'.heap ∧ ∀ b ∈ fp, H' b = none) rfl hc pg pt pk pv T (fY I3) I3 n3 st3 go ask fun s' H' I' t' n' nx => ?_) fun r s' hr => ?_
      · obtain ⟨m', lt, w'⟩ := next H' nx
        exact ⟨m', lt, i + 1, H', w', I', t', n'⟩
      · obtain ⟨u, rfl, hr⟩ := hr
        exact hr
  exact codeAny_compStart_dict run (T.self X.A 0 _ _ _ stB run)
end
/-! ### over data -/
def dDcL (di : DTI) (dg : DTG) (dt : DTT) (dk dv : DTE) (vs : List Nat) : DTE := fun S R => di S fun ys St S1 => ∃ I : Nat → List (Leaf × DV) → List (Option DO) → Prop, I 0 [] S1.μ ∧ (∀ i acc μ, i ≤ ys.length → I i acc μ → St ⟨wipeD S1.ρ vs, μ⟩) ∧
  (∀ i y acc μ, ys[i]? = some y → I i acc μ → dg y ⟨wipeD S1.ρ vs, μ⟩ fun S3 => dt S3 fun b S4 => if b = true then dk S4 fun kd S5 => dv S5 fun d S6 => match keyOf kd with
    | some l => I (i + 1) (putG acc l d) S6.μ
    | none => False else I (i + 1) acc S4.μ) ∧ ys.length < sizeLine ∧ ∀ acc μ, I ys.length acc μ → R (.cell μ.length) ⟨S1.ρ, μ ++ [some (.dic acc)]⟩
section
variable {P : Program} {w : World} {K : PySem.W.Frag} {B : Bs} {S S' : DSt} {σ : L2.St} {ts : List (V × DV)} {H F F' : Hp} {α : List Addr} {v : V} {d : DV} {wi : TI} {di : DTI} {g : TG} {dg : DTG} {js : List Nat}
/-- the values of a dict that is being made -/
def DcL (kvs : List (Leaf × V)) (es : List (Leaf × DV)) : List (V × DV) := (kvs.map (·.2)).zip (es.map (·.2))
theorem dcL_paired : ∀ {kvs : List (Leaf × V)} {es : List (Leaf × DV)}, kvs.map (·.1) = es.map (·.1) → (∀ p ∈ DcL kvs es, VOk P w K F α p.1 p.2) → Paired (KVOk P w K F α) kvs es
  | [], [], _, _ => .nil
  | [], _ :: _, h, _ => by simp at h
  | _ :: _, [], h, _ => by simp at h
  | p :: kvs, q :: es, h, hp => by
    simp only [List.map_cons, List.cons.injEq] at h
    exact .cons ⟨h.1, hp (p.2, q.2) (by simp [DcL])⟩ (dcL_paired h.2 fun z hz => hp z (by simp only [DcL, List.map_cons, List.zip_cons_cons, List.mem_cons]; exact .inr hz))
theorem mem_dcL : ∀ {kvs : List (Leaf × V)} {es : List (Leaf × DV)}, Paired (KVOk P w K F α) kvs es → ∀ p ∈ DcL kvs es, VOk P w K F α p.1 p.2
  | _, _, .nil, p, hp => by simp [DcL] at hp
  | a :: kvs, b :: es, .cons h1 t, p, hp => by
    simp only [DcL, List.map_cons, List.zip_cons_cons, List.mem_cons] at hp
    rcases hp with e | hp
    · subst e; exact h1.2
    · exact mem_dcL t p hp
theorem snd_dcL {tt : TT} {dt : DTT} {tk tv : TE} {dk dv : DTE} {vs : List Nat} (hi : SndI P w K wi di) (hg : SndG P w K js g dg) (ht : SndT P w K tt dt) (hk : SndE P w K tk dk) (he : SndE P w K tv dv) (hj : ∀ j ∈ js, j ∈ vs) :
    SndE P w K (tDcL P w wi g tt tk tv vs) (dDcL di dg dt dk dv vs) := fun B S σ ts H R Q h hd kk =>
  hi B S σ ts H _ _ h hd fun ys St S1 H1 J Gp Y us hr o wk hG hY => by
    obtain ⟨I, h0, hst, hs, hz, hdn⟩ := hr
    obtain ⟨F1, α1, o1⟩ := o
    intro D hD
    have b1 := o1.base
    have hF1 : F1 D = none := o1.freeF hD
    have hα1 : D ∉ α1 := fun q => o1.an D q hD
    let ρw := wipeD S1.ρ vs
    let B1 : Bs := ⟨F1, H1, α1⟩
    let Pv : Nat → Hp → Prop := fun i H2 => ∃ kvs es μ F α, I i es μ ∧ kvs.map (·.1) = es.map (·.1) ∧ kvs.length ≤ i ∧ StAt P w K B1 ⟨ρw, μ⟩ (wipe σ vs) (DcL kvs es ++ (us ++ ts)) H2 F α ∧ H2 D = some (DicO P w D kvs) ∧ F D = none ∧ D ∉ α
    have p0 : Pv 0 (upd H1 D (DicO P w D [])) := ⟨[], [], S1.μ, F1, α1, h0, rfl, Nat.le_refl _, ((b1.wipe vs).free hα1 hF1 hD), upd_same, hF1, hα1⟩
    refine ⟨fun i m H => m = ys.length - i ∧ i ≤ ys.length ∧ Pv i H, ⟨ys.length, by simp, Nat.zero_le _, p0⟩, ?_⟩
    rintro i m H2 ⟨rfl, hi', kvs, es, μ, F, α, q, hl, hli, o2, hD2, hF2, hα2⟩
    have gG : Gp H2 := hG B1 _ (wipe σ vs) H2 _ (fun p hp => List.mem_append_right _ (List.mem_append_left _ hp)) (hst i es μ hi' q) o2.ok
    by_cases hlt : i < ys.length
    · refine .inr ⟨wk.goes i H2 hlt gG, Pv (i + 1), fun H' p' => ⟨_, by omega, rfl, hlt, p'⟩, fun x H3 y => ?_⟩
      have y := wk.yields i H2 x H3 hlt gG y
      have b2 := o2.base
      obtain ⟨yy, e1, sy⟩ := hY ⟨F, H2, α⟩ i ⟨ρw, μ⟩ (wipe σ vs) H2 x H3 _ hlt (fun p hp => List.mem_append_right _ (List.mem_append_left _ hp)) (hst i es μ hi' q) b2.ok y
      refine hg _ _ _ _ H3 x yy _ _ sy (hs i yy es μ e1 q) fun S3 σ3 H4 q3 _ hw o3 => ⟨?_, ?_⟩
      · rw [hw vs hj, wipe_wipe σ vs vs fun _ z => z]
      · refine ht _ S3 σ3 _ H4 _ _ o3 q3 fun b S4 H5 q4 o4 => ?_
        cases b with
        | false =>
          obtain ⟨F5, α5, o5⟩ := o4
          obtain ⟨d1, d2, d3⟩ := o5.bc D _ hD2 hF2 hα2
          have o6 := o2.rebase o5
          refine ⟨kvs, es, S4.μ, F5, α5, q4, hl, Nat.le_succ_of_le hli, o6.slots (o2.len) (fun j e r => ?_), d1, d2, d3⟩
          obtain ⟨v, g1, g2⟩ := o2.sl j e r
          exact ⟨v, g1, o5.known g2⟩
        | true =>
          refine hk _ S4 σ3 _ H5 _ _ o4 q4 fun ky kd S5 H6 q5 o5 => ?_
          refine he _ S5 σ3 _ H6 _ _ o5 q5 fun y' d' S6 H7 q6 o6 => ?_
          obtain ⟨F7, α7, o7⟩ := o6
          obtain ⟨d1, d2, d3⟩ := o7.bc D _ hD2 hF2 hα2
          have o8 := o2.rebase o7
          cases e5 : keyOf kd with
          | none => rw [e5] at q6; exact q6.elim
          | some l =>
            rw [e5] at q6
            refine ⟨kvs, l, key_ok o7.top2 e5, d1, by omega, ?_⟩
            have hp0 : Paired (KVOk P w K F7 α7) kvs es := dcL_paired hl fun p hp => o7.tm p (List.mem_cons_of_mem _ (List.mem_cons_of_mem _ (List.mem_append_left _ hp)))
            have hp1 : Paired (KVOk P w K F7 α7) (putK kvs l y') (putG es l d') := putG_ok hp0 _ o7.top
            have hlen := length_putK kvs l y'
            have o9 : StAt P w K B1 ⟨ρw, S6.μ⟩ (wipe σ vs) _ H7 F7 α7 := o8.slots (o2.len) fun j e r => by
              obtain ⟨v, g1, g2⟩ := o2.sl j e r
              exact ⟨v, g1, o7.known g2⟩
            refine ⟨putK kvs l y', putG es l d', S6.μ, F7, α7, q6, pair_keys hp1, by omega, ?_, upd_same, d2, d3⟩
            have o10 := o9.free (o := DicO P w D (putK kvs l y')) d3 d2 hD
            refine { o10 with tm := fun z hz' => ?_ }
            rcases List.mem_append.mp hz' with hz' | hz'
            · exact mem_dcL hp1 z hz'
            · exact o9.tm z (List.mem_cons_of_mem _ (List.mem_cons_of_mem _ (List.mem_append_right _ hz')))
    · have e : i = ys.length := by omega
      subst e
      refine .inl ⟨wk.stops H2 gG, ?_⟩
      have hp : Paired (KVOk P w K F α) kvs es := dcL_paired hl fun p hp => o2.tm p (List.mem_append_left _ hp)
      have o3 : StAt P w K B1 ⟨S1.ρ, μ⟩ σ (us ++ ts) H2 F α := (o2.sub fun p hp => List.mem_append_right _ hp).slots o1.len fun j e r => by
        obtain ⟨v, g1, g2⟩ := o1.sl j e r
        exact ⟨v, g1, o2.known g2⟩
      have o4 := (o1.rebase o3).sub (fun p hp => List.mem_append_right us hp)
      have o5 := o4.adopt (o := .dic es) hα2 hF2 (by rw [hD2]; exact fun z => by cases z) (o1.freshB hD) ⟨kvs, hD2, paired_up (fun _ _ q => ⟨q.1, q.2.up (Ex.refl _)⟩) hp⟩
      exact kk _ _ _ _ (hdn es μ q) (o5.add (d := .cell μ.length) ⟨D, by rw [← o4.al, List.getElem?_append_right (Nat.le_refl _), Nat.sub_self]; rfl, rfl⟩).ok
end
section
variable {X : Cx} {dg : DTG} {dt : DTT} {dk dv : DTE} {js : List Nat}
theorem de_dcL {own : List (Str × Nat)} {ke ve tg iter : Expr} {ifs : List Expr} {scope : Scope} {pos : Pos} {di : DTI} (hc : X.calm = true) (hN : X.N.Nodup) (hi : DI X tg iter di) (ok : BlkOk X.N X.env.scope scope own)
    (blk : ∀ (s : Shared) (H : Hp) (C : Addr) (cl : List (Str × Addr)) (fp : List Addr), DG (blkX X scope s H C cl fp) tg js dg ∧ DTs (blkX X scope s H C cl fp) ifs dt ∧ DE (blkX X scope s H C cl fp) ke dk ∧ DE (blkX X scope s H C cl fp) ve dv)
    (hj : ∀ j ∈ js, j ∈ own.map (·.2)) (hs : ∀ x, foldedSetIterable iter X.env x = pure x := by intro _; rfl) : DE X (.DictComp ke ve [⟨tg, iter, ifs, 0⟩] scope pos) (dDcL di dg dt dk dv (own.map (·.2))) := by
  obtain ⟨wi, a1, a2⟩ := hi.ex
  have b := blk
  exact ⟨_, pe_dcL (g := canG X.prog X.w X.K js dg) (tt := canT X.prog X.w X.K dt) (tk := canE X.prog X.w X.K dk) (tv := canE X.prog X.w X.K dv) hc hN a1 ok (fun s H C cl fp => ⟨(b s H C cl fp).1.can, (b s H C cl fp).2.1.can, (b s H C cl fp).2.2.1.can, (b s H C cl fp).2.2.2.can⟩) hs, snd_dcL a2 (snd_canG js dg) (snd_canT dt) (snd_canE dk) (snd_canE dv) hj⟩
end
section
variable {S : DSt} {R : DV → DSt → Prop} {di : DTI} {dg : DTG} {dt : DTT} {dk dv : DTE} {vs : List Nat} {RD : List (Leaf × DV) → DSt → Prop}
def DcLK (dg : DTG) (dt : DTT) (dk dv' : DTE) (vs : List Nat) (R : List (Leaf × DV) → DSt → Prop) (ys : List DY) (St : DSt → Prop) (S1 : DSt) : Prop := ∃ I : Nat → List (Leaf × DV) → List (Option DO) → Prop, I 0 [] S1.μ ∧ (∀ i acc μ, i ≤ ys.length → I i acc μ → St ⟨wipeD S1.ρ vs, μ⟩) ∧
  (∀ i y acc μ, ys[i]? = some y → I i acc μ → dg y ⟨wipeD S1.ρ vs, μ⟩ fun S3 => dt S3 fun b S4 => if b = true then dk S4 fun kd S5 => dv' S5 fun d S6 => match keyOf kd with
    | some l => I (i + 1) (putG acc l d) S6.μ
    | none => False else I (i + 1) acc S4.μ) ∧ ys.length < sizeLine ∧ ∀ acc μ, I ys.length acc μ → R acc ⟨S1.ρ, μ⟩
theorem r_dcL (k : di S (DcLK dg dt dk dv vs fun acc S1 => R (.cell S1.μ.length) (S1.new (.dic acc)))) : dDcL di dg dt dk dv vs S R := k
end
end DL

set_option Elab.async false
set_option linter.all false
set_option maxRecDepth 100000
set_option autoImplicit false
set_option maxHeartbeats 2000000
namespace DL
open PySem PySem.Spec L2 PyProof.Rows

/-! ## a call that gives back a thing with new cells in it -/
/-- a callee's cell under the caller's number -/
def rnD (m : List (Nat × Nat)) : DV → Option DV
  | .cell j => (m.lookup j).map .cell
  | d => some d
def rnDs (m : List (Nat × Nat)) : List DV → Option (List DV)
  | [] => some []
  | d :: ds => match rnD m d, rnDs m ds with
    | some d', some ds' => some (d' :: ds')
    | _, _ => none
def rnKs (m : List (Nat × Nat)) : List (Leaf × DV) → Option (List (Leaf × DV))
  | [] => some []
  | p :: ps => match rnD m p.2, rnKs m ps with
    | some d', some ps' => some ((p.1, d') :: ps')
    | _, _ => none
def rnO (m : List (Nat × Nat)) : DO → Option DO
  | .lst ds => (rnDs m ds).map .lst
  | .dic kvs => (rnKs m kvs).map .dic
  | _ => none
/-- the cells js, one behind the other, put behind the caller's -/
def plant (μ' : List (Option DO)) : List Nat → List (Nat × Nat) → List (Option DO) → Option (List (Nat × Nat) × List (Option DO))
  | [], m, μ => some (m, μ)
  | j :: js, m, μ => match μ'[j]? with
    | some (some o) => match rnO m o with
      | some o' => plant μ' js ((j, μ.length) :: m) (μ ++ [some o'])
      | none => none
    | _ => none
def handed (ks : List Nat) : List (Nat × Nat) := ks.mapIdx fun i k => (i, k)
def kCallT (dsp : DSp) (R : DV → DSt → Prop) (ds : List DV) (S1 : DSt) (ks : List Nat) : Prop := match renDs ks ds with
  | none => False
  | some ds' => ks.Nodup ∧ (∀ k ∈ ks, k < S1.μ.length) ∧ dsp ds' (cellsOf S1.μ ks) fun d μ' => ∃ js, js.Nodup ∧ (∀ j ∈ js, ks.length ≤ j) ∧ match plant μ' js (handed ks) (backs S1.μ ks μ') with
    | some (m, μ2) => match rnD m d with
      | some d' => R d' ⟨S1.ρ, μ2⟩
      | none => False
    | none => False
def dCallT (dsp : DSp) (dvs : List DV) (da : DTA) : DTE := fun S R => da S fun ds S1 => ∃ ks, kCallT dsp R (ds ++ dvs) S1 ks
section
variable {P : Program} {w : World} {K : PySem.W.Frag} {B : Bs} {S S' : DSt} {σ : L2.St} {ts : List (V × DV)} {H F F' : Hp} {α β : List Addr} {v : V} {d : DV} {m : List (Nat × Nat)}
/-- the numbers tell the same address -/
def Same (m : List (Nat × Nat)) (β α : List Addr) : Prop := ∀ j k, m.lookup j = some k → ∃ a, β[j]? = some a ∧ α[k]? = some a
theorem Same.ext (h : Same m β α) (a : Addr) : Same m β (α ++ [a]) := fun j k e => by
  obtain ⟨b, b1, b2⟩ := h j k e
  exact ⟨b, b1, by rw [List.getElem?_append_left (List.getElem?_eq_some_iff.mp b2).1]; exact b2⟩
theorem rnD_ok (hs : Same m β α) (h : VOk P w K F β v d) {d' : DV} (e : rnD m d = some d') : VOk P w K F α v d' := by
  cases d with
  | cell j =>
    obtain ⟨k, k1, rfl⟩ := Option.map_eq_some_iff.mp (show (m.lookup j).map DV.cell = some d' from e)
    obtain ⟨a, a1, a2⟩ := h
    obtain ⟨b, b1, b2⟩ := hs j k k1
    cases a1.symm.trans b1
    exact ⟨a, b2, a2⟩
  | imm d => cases e; exact h
  | raw u => cases e; exact h
  | obj φ => cases e; exact h
  | scr ns => cases e; exact h
theorem rnDs_ok (hs : Same m β α) : ∀ {xs : List V} {ds ds' : List DV}, Paired (VOk P w K F β) xs ds → rnDs m ds = some ds' → Paired (VOk P w K F α) xs ds'
  | _, _, _, .nil, e => by cases e; exact .nil
  | _, d :: ds, ds', .cons h t, e => by
    have e : (match rnD m d, rnDs m ds with | some d', some ds' => some (d' :: ds') | _, _ => none) = some ds' := e
    split at e
    · rename_i a b e1 e2
      cases e
      exact .cons (rnD_ok hs h e1) (rnDs_ok hs t e2)
    · cases e
theorem rnKs_ok (hs : Same m β α) : ∀ {xs : List (Leaf × V)} {ds ds' : List (Leaf × DV)}, Paired (fun p q => p.1 = q.1 ∧ VOk P w K F β p.2 q.2) xs ds → rnKs m ds = some ds' → Paired (fun p q => p.1 = q.1 ∧ VOk P w K F α p.2 q.2) xs ds'
  | _, _, _, .nil, e => by cases e; exact .nil
  | _, d :: ds, ds', .cons h t, e => by
    have e : (match rnD m d.2, rnKs m ds with | some d', some ps' => some ((d.1, d') :: ps') | _, _ => none) = some ds' := e
    split at e
    · rename_i a b e1 e2
      cases e
      exact .cons ⟨h.1, rnD_ok hs h.2 e1⟩ (rnKs_ok hs t e2)
    · cases e
theorem rnO_ok {a : Addr} {o o' : DO} (hs : Same m β α) (h : COk P w K F β H a o) (e : rnO m o = some o') : COk P w K F α H a o' := by
  cases o with
  | lst ds =>
    obtain ⟨ds', e1, rfl⟩ := Option.map_eq_some_iff.mp (show (rnDs m ds).map DO.lst = some o' from e)
    obtain ⟨xs, h1, h2⟩ := h
    exact ⟨xs, h1, rnDs_ok hs h2 e1⟩
  | dic kvs =>
    obtain ⟨ps', e1, rfl⟩ := Option.map_eq_some_iff.mp (show (rnKs m kvs).map DO.dic = some o' from e)
    obtain ⟨xs, h1, h2⟩ := h
    exact ⟨xs, h1, rnKs_ok hs h2 e1⟩
  | ins C fs => cases e
  | ho φ => cases e
  | lck ob kvs => cases e
  | tdk kvs => cases e
theorem lookup_cons {j k i : Nat} {m : List (Nat × Nat)} : ((j, k) :: m).lookup i = if i = j then some k else m.lookup i := by
  rw [List.lookup_cons]
  by_cases c : i = j
  · subst c; simp
  · rw [if_neg c, show (i == j) = false from beq_eq_false_iff_ne.mpr c]
theorem plant_ok {μ' : List (Option DO)} {ρ ρ' : List (Option DV)} {B' : Bs} {σ' : L2.St} {us : List (V × DV)} (z : StAt P w K B' ⟨ρ', μ'⟩ σ' us H F β) :
    ∀ (js : List Nat) (m : List (Nat × Nat)) (μ : List (Option DO)) (α : List Addr), js.Nodup → StAt P w K B ⟨ρ, μ⟩ σ ts H F α → Same m β α → (∀ j ∈ js, ∀ a, β[j]? = some a → a ∉ α ∧ B.H a = none) →
    ∀ {m2 : List (Nat × Nat)} {μ2 : List (Option DO)}, plant μ' js m μ = some (m2, μ2) → ∃ α2, StAt P w K B ⟨ρ, μ2⟩ σ ts H F α2 ∧ Same m2 β α2
  | [], m, μ, α, _, o, hs, _, m2, μ2, e => by cases e; exact ⟨α, o, hs⟩
  | j :: js, m, μ, α, nd, o, hs, hn, m2, μ2, e => by
    obtain ⟨n1, n2⟩ := List.nodup_cons.mp nd
    unfold plant at e
    split at e
    · rename_i u e1
      split at e
      · rename_i u' e2
        obtain ⟨a, a1, a2, a3⟩ := z.ce j u e1
        obtain ⟨na, ba⟩ := hn j List.mem_cons_self a a1
        have o1 := o.adopt (o := u') na a2 (z.an a (List.mem_of_getElem? a1)) ba (rnO_ok (hs.ext a) a3 e2)
        refine plant_ok z js _ _ (α ++ [a]) n2 o1 (fun i k q => ?_) (fun i hi b b1 => ?_) e
        · rw [lookup_cons] at q
          by_cases c : i = j
          · subst c
            rw [if_pos rfl] at q
            cases q
            exact ⟨a, a1, by rw [← o.al, List.getElem?_append_right (Nat.le_refl _), Nat.sub_self]; rfl⟩
          · rw [if_neg c] at q
            exact hs.ext a i k q
        · obtain ⟨g1, g2⟩ := hn i (List.mem_cons_of_mem _ hi) b b1
          refine ⟨fun q => ?_, g2⟩
          rcases List.mem_append.mp q with q | q
          · exact g1 q
          · rw [List.mem_singleton.mp q] at b1
            exact n1 (nd_at z.nd b1 a1 ▸ hi)
      · cases e
    · cases e
theorem handed_lookup : ∀ (ks : List Nat) (n j : Nat), (ks.mapIdx fun i k => (i + n, k)).lookup (j + n) = ks[j]?
  | [], n, j => by simp
  | k :: ks, n, j => by
    rw [List.mapIdx_cons]
    rw [show (fun i k => (i + 1 + n, k)) = fun (i k : Nat) => (i + (n + 1), k) by funext i k; congr 1; omega]
    rw [lookup_cons]
    cases j with
    | zero => simp
    | succ j =>
      rw [if_neg (by omega), show j + 1 + n = j + (n + 1) by omega, handed_lookup ks (n + 1) j]
      simp
theorem handed_get (ks : List Nat) (j : Nat) : (handed ks).lookup j = ks[j]? := handed_lookup ks 0 j
theorem snd_callT {ta : TA} {da : DTA} {dsp : DSp} {dvs : List V} {dds : List DV} {E : XK} (ha : SndA P w K ta da) (hdv : ∀ (F : Hp) (α : List Addr), Paired (VOk P w K F α) dvs dds) :
    SndE P w K (tCall (spD P w K dsp) dvs E ta) (dCallT dsp dds da) := fun B S σ ts H R Q h hd k =>
  ha B S σ ts H _ _ h hd fun vs ds S1 H1 hl q o => by
    obtain ⟨ks, q⟩ := q
    unfold kCallT at q
    cases e : renDs ks (ds ++ dds) with
    | none => rw [e] at q; exact q.elim
    | some ds' =>
      rw [e] at q
      obtain ⟨nk, hk, q⟩ := q
      obtain ⟨F, α, o⟩ := o
      have o' : StAt P w K B S1 σ ts H1 F α := o.sub memA
      have oc := o'.callee (Paired.app' (o.args hl) (hdv F α)) nk hk e
      refine ⟨F, adrs α ks, ds', cellsOf S1.μ ks, _, oc, ?_, q, fun v d ρ σ' μ' H' r z => ?_⟩
      · have := oc.len
        rw [List.length_map, List.length_map] at this
        exact this.symm
      · obtain ⟨F', β, z⟩ := z
        obtain ⟨js, nj, hj, r⟩ := r
        have ob := o'.back nk hk z
        have hk' : ∀ k ∈ ks, k < α.length := fun k y => by rw [o'.al]; exact hk k y
        have pre : β.take (adrs α ks).length = adrs α ks := z.bp
        have al : (adrs α ks).length = ks.length := by unfold adrs; rw [List.length_map]
        have same : Same (handed ks) β α := fun j k q => by
          rw [handed_get] at q
          have jl := (List.getElem?_eq_some_iff.mp q).1
          have e1 := adrs_get hk' q
          have kl := hk' k (List.mem_of_getElem? q)
          refine ⟨α[k], ?_, List.getElem?_eq_getElem kl⟩
          have e2 : (β.take (adrs α ks).length)[j]? = some α[k] := by rw [pre, e1, List.getElem?_eq_getElem kl]
          rwa [List.getElem?_take_of_lt (by rw [al]; exact jl)] at e2
        have fresh : ∀ j ∈ js, ∀ a, β[j]? = some a → a ∉ α ∧ B.H a = none := fun j hjj a a1 => by
          have hn : H1 a = none := by
            rcases z.bn a (List.mem_of_getElem? a1) with y | y
            · exfalso
              obtain ⟨i, hi, ei⟩ := List.mem_iff_getElem.mp (show a ∈ adrs α ks from y)
              have h3 : β[i]? = some a := by
                have : (β.take (adrs α ks).length)[i]? = some a := by rw [pre, List.getElem?_eq_getElem hi, ei]
                rwa [List.getElem?_take_of_lt hi] at this
              have := nd_at z.nd h3 a1
              have := hj j hjj
              rw [al] at hi
              omega
            · exact y
          exact ⟨fun y => o'.an a y hn, o'.freshB hn⟩
        split at r
        · rename_i m2 μ2 e2
          split at r
          · rename_i d' e3
            obtain ⟨α2, o2, s2⟩ := plant_ok z js (handed ks) _ α nj ob same fresh e2
            exact k v d' _ H' r (o2.add (rnD_ok s2 z.top e3)).ok
          · exact r.elim
        · exact r.elim
end
section
variable {X : Cx} {e : Expr} {es : List Expr} {da : DTA} {pos : Pos}
theorem de_callT {k : Nat} {f : Addr} {fd : FuncData} {ps : List Str} {dsp : DSp} {ds : List Value} {dvs : List V} {dds : List DV} {x : Str} {p : Pos}
    (F : DFn X.prog X.w X.K X.mg X.base k f fd ps dsp) (hr : Room k X.A) (hgd : X.A.guards = some []) (hg : Gl X x) (hm : X.mg x = some (.ref f)) (hk : PySem.W.keepIn X.K (.ref f) = true) (hb : Binds X.K fd ps ds) (hd : Vals dvs ds) (hdv : ∀ (F : Hp) (α : List Addr), Paired (VOk X.prog X.w X.K F α) dvs dds)
    (ha : DA X (e :: es) da) (hdb : (x == ("__debug__" : Str)) = false := by decide) (he : starEach (e :: es) X.env = (false, eval e X.env) :: starEach es X.env := by rfl) (hpl : (backTo pos (starEach es X.env)).any (·.1) = false := by rfl) :
    DE X (.Call (.Name x p) (e :: es) [] pos) (dCallT dsp dds da) := by
  obtain ⟨t, a1, a2⟩ := ha.ex
  exact ⟨_, pe_callG (E := fun _ _ _ => False) F.fn hr hgd hg hm hk hb hd pass0 a1 hdb he hpl, snd_callT a2 hdv⟩
end
end DL

set_option Elab.async false
set_option linter.all false
set_option maxRecDepth 100000
set_option autoImplicit false
set_option maxHeartbeats 2000000
namespace DL
open PySem PySem.Spec L2 PyProof.Rows

/-! ## xs[::-1], d.clear(), repr of what stands in cells -/
def kRevS (R : DV → DSt → Prop) : DV → DSt → Prop := fun x S1 => match S1.seq x with
  | some (true, es) => match allImm es with
    | some ps => R (.imm (.list ps.reverse)) S1
    | none => False
  | _ => False
def dRevS (de : DTE) : DTE := fun S R => de S (kRevS R)
theorem paired_rev {V1 D1 : Type} {r : V1 → D1 → Prop} : ∀ {xs : List V1} {ds : List D1}, Paired r xs ds → Paired r xs.reverse ds.reverse
  | _, _, .nil => .nil
  | x :: xs, d :: ds, .cons h t => by
    rw [List.reverse_cons, List.reverse_cons]
    exact Paired.app' (paired_rev t) (.cons h .nil)
theorem allImm_rev {es : List DV} {ps : List PyData} (e : allImm es = some ps) : allImm es.reverse = some ps.reverse := by
  have h : ∀ {es : List DV} {ps : List PyData}, allImm es = some ps → es = ps.map DV.imm := by
    intro es
    induction es with
    | nil => intro ps e; cases e; rfl
    | cons d es ih =>
      intro ps e
      cases d with
      | imm a =>
        have e' : (allImm es).map (a :: ·) = some ps := e
        obtain ⟨l, l1, l2⟩ := Option.map_eq_some_iff.mp e'
        subst l2
        rw [ih l1]; rfl
      | _ => cases e
  rw [h e, ← List.map_reverse]
  exact allImm_map _
section
variable {X : Cx} {e o : Expr} {de do' : DTE} {p1 p2 p3 pos apos cpos : Pos}
theorem de_revS {k : Nat} (h : DE X e de) : DE X (.Subscript e (.Slice none none (some (.UnaryOp .USub (.Constant (.int 1) k p1) p2)) p3) pos) (dRevS de) := by
  obtain ⟨t, a1, a2⟩ := h.ex
  refine ⟨_, pe_revL a1, fun B S σ ts H R Q o hd kk => a2 B S σ ts H _ _ o hd fun v d S1 H1 q o1 => ?_⟩
  unfold kRevS at q
  split at q
  · rename_i es e1
    split at q
    · rename_i ps e2
      obtain ⟨F, α, o1⟩ := o1
      obtain ⟨p, ys, rfl, hq, hp⟩ := o1.seq o1.top e1
      exact ⟨p, ys, rfl, hq, fun l hn => kk _ _ S1 _ q ((o1.sub mem1).newLst hn (imms (allImm_rev e2) (paired_rev hp))).ok⟩
    · exact q.elim
  · exact q.elim
/-- d.clear() -/
def tDClear (P : Program) (w : World) (to : TE) : TE := fun σ H Q => to σ H fun x H1 => ∃ a kvs, x = .ref a ∧ H1 a = some (DicO P w a kvs) ∧ Q .non (upd H1 a (DicO P w a []))
theorem pe_dclearZ {to : TE} (ho : PE X o to) (hbase : attributeBase o "clear" X.env (eval o X.env) = eval o X.env := by rfl) (hline : (apos.endLine == cpos.line) = true := by rfl) : PE X (.Call (.Attribute o "clear" apos) [] [] cpos) (tDClear X.prog X.w to) := by
  refine ⟨fun pins s σ H Q I h => ?_⟩
  refine wpAny_Call_method0_late hbase hline (thn (ho.run pins s σ H _ I h) fun v s1 hv => ?_)
  obtain ⟨x, H1, I1, r1, a, kvs, rfl, hH, q⟩ := hv
  cases (show v = Value.ref a from r1)
  obtain ⟨z, hd, vs, rel, dd⟩ := dz_of I1 hH
  refine ⟨"dict", "dict.clear", PySem.F.plainAttrs_dict, PySem.F.slot_dict_clear, PySem.F.type_dict_clear, dd.typeIs, dd.mapOf.noDict, ?_⟩
  refine Calls.callWith_builtin rfl (PySem.evalArgs_none ?_)
  refine call_meetsIn PySem.F.slot_dict_clear dd.typeIs PySem.F.entry_dict_clear (PySem.F.args_dict_clear_1 _) (meets_dict_clear (cK X.prog X.w) a) ⟨vs, dd, by rw [← rel.length]; exact z, fun h' dd' hs => ?_⟩
  have he : ∃ u, h'.get? a = some u := let ⟨u, _, _, hu, _⟩ := dd'; ⟨u, hu⟩
  exact ⟨.non, _, d_write I1 (by rw [hH]; exact True.intro) hs he (dz_ok (Nat.zero_le _) hd .nil dd'), rfl, q⟩
def dDClear (do' : DTE) : DTE := fun S R => do' S fun x S1 => match x with
  | .cell k => match S1.cell k with
    | some (.dic _) => R dN (S1.put k (.dic []))
    | _ => False
  | _ => False
theorem de_dclear (ho : DE X o do') (hbase : attributeBase o "clear" X.env (eval o X.env) = eval o X.env := by rfl) (hline : (apos.endLine == cpos.line) = true := by rfl) : DE X (.Call (.Attribute o "clear" apos) [] [] cpos) (dDClear do') := by
  obtain ⟨t, a1, a2⟩ := ho.ex
  refine ⟨_, pe_dclearZ a1 hbase hline, fun B S σ ts H R Q o hd kk => a2 B S σ ts H _ _ o hd fun v d S1 H1 q o1 => ?_⟩
  split at q
  · rename_i k
    split at q
    · rename_i kvs e1
      obtain ⟨F, α, o1⟩ := o1
      obtain ⟨a, c1, rfl⟩ := o1.top
      obtain ⟨a', g1, g2, xs, g3, g4⟩ := o1.ce k _ (cell_get e1)
      cases c1.symm.trans g1
      exact ⟨_, xs, rfl, g3, kk _ _ _ _ q (((o1.cellPut (u := .dic []) g1 g2 ⟨[], upd_same, .nil⟩).sub mem1).add vnon).ok⟩
    · exact q.elim
  · exact q.elim
end
/-- repr: data, or what stands in the cells fz -/
def gReprC : DC1 := fun ds S R => match ds with
  | [d] => ∃ fz p, FzD S fz d p ∧ CanShow p ∧ R (dS p.shown) S
  | _ => False
theorem cd_reprC {X : Cx} (hg : X.A.guards = some []) (hu : X.A.units + 60 < cLine) : CallD X (.builtin "repr") gReprC := ⟨_, call_reprZ hg hu, fun B S σ ts H xs ds R Q hl h hd k => by
  match ds, hd with
  | [d], hd =>
    match xs, hl with
    | [x], _ =>
      obtain ⟨F, α, h⟩ := h
      obtain ⟨fz, p, hf, hc, hd⟩ := hd
      refine ⟨x, p, fixF F H α fz, rfl, fun b o q => ?_, fz_rp h hf (h.tm (x, d) (by simp)), hc, k _ _ S H hd ((h.sub memA).add vstr).ok⟩
      unfold fixF at q
      split at q
      · exact q
      · exact h.fh b o q⟩
section
variable {S : DSt} {R : DV → DSt → Prop} {x : DV} {es : List DV} {ps : List PyData} {k : Nat} {de : DTE}
theorem r_revS (h : de S (kRevS R)) : dRevS de S R := h
theorem r_kRevS (e : S.seq x = some (true, es)) (ei : allImm es = some ps) (q : R (.imm (.list ps.reverse)) S) : kRevS R x S := by
  unfold kRevS
  rw [e]
  dsimp only
  rw [ei]; exact q
theorem r_reprI {p : PyData} (h : CanShow p) (q : R (dS p.shown) S) : gReprC [.imm p] S R := ⟨[], p, .imm p, h, q⟩
theorem r_reprC {d : DV} {p : PyData} (fz : List Nat) (hf : FzD S fz d p) (h : CanShow p) (q : R (dS p.shown) S) : gReprC [d] S R := ⟨fz, p, hf, h, q⟩
theorem r_callT {dsp : DSp} {dds : List DV} {dr : DTA} (h : dr S fun es S1 => ∃ ks, kCallT dsp R (es ++ dds) S1 ks) : dCallT dsp dds dr S R := h
end
end DL

set_option Elab.async false
set_option linter.all false
set_option maxRecDepth 100000
set_option autoImplicit false
set_option maxHeartbeats 2000000
namespace DL
open PySem PySem.Spec L2 PyProof.Rows

/-! ## for k in d: the dict is locked while it is walked -/
/-- the keys of a locked dict -/
def Itz (P : Program) (w : World) (a : Addr) (ob : Obj) (kvs : List (Leaf × V)) : It :=
  ⟨fun i H => H a = some (LckO P w ob kvs a) ∧ i < kvs.length, fun i H x H' => H' = H ∧ ∃ l v, kvs[i]? = some (l, v) ∧ x = kvV l, fun i H => H a = some (LckO P w ob kvs a) ∧ kvs.length ≤ i⟩
section
variable {X : Cx} {pins : List (Addr × Obj)} {σ : L2.St} {H : Hp} {s : Shared} {a : Addr} {ob : Obj} {kvs : List (Leaf × V)}
theorem lck_of (I : Inv X pins σ H s) (e : H a = some (LckO X.prog X.w ob kvs a)) : s.heap.get? a = some ob ∧ kvs.length ≤ sizeLine ∧ (a == sysModules) = false ∧ ∃ vs, KV kvs vs ∧ s.heap.DictOf (cK X.prog X.w) a vs :=
  (show ObjOk X.prog X.w H s.heap a (LckO X.prog X.w ob kvs a) from I.hok a _ e).1
theorem lck_ok {H' : Hp} {h : Heap} {vs : List (Leaf × Value)} (ho : h.get? a = some ob) (z : kvs.length ≤ sizeLine) (hd : (a == sysModules) = false) (r : KV kvs vs) (dd : h.DictOf (cK X.prog X.w) a vs) : ObjOk X.prog X.w H' h a (LckO X.prog X.w ob kvs a) := by
  refine ⟨⟨ho, z, hd, vs, r, dd⟩, ⟨ob, ho⟩, fun h1 h2 hp k => ?_⟩
  obtain ⟨q0, q1, q2, vs', q3, o, es, ep, q4, q5⟩ := hp
  exact ⟨k ob q0, q1, q2, vs', q3, o, es, ep, k o q4, q5⟩
/-- its entries -/
theorem lck_raw {h : Heap} {vs : List (Leaf × Value)} (ho : h.get? a = some ob) (r : KV kvs vs) (dd : h.DictOf (cK X.prog X.w) a vs) :
    ∃ es ep, ob.data = .dict es ep ∧ h.DictRaw a es ep ∧ es.size = kvs.length ∧ ∀ i (hi : i < es.size) l v, kvs[i]? = some (l, v) → RelV (kvV l) es[i].key := by
  obtain ⟨es, ep, hr, hs, hk⟩ := dd.raw
  have hl := Paired.length r
  obtain ⟨o, o1, o2, o3⟩ := id hr
  cases ho.symm.trans o1
  refine ⟨es, ep, o3, hr, by rw [hs, hl], fun i hi l v e => ?_⟩
  obtain ⟨q, q1, q2⟩ := pget i r e
  obtain ⟨l', u⟩ := q
  have e1 : l = l' := q2.1
  subst e1
  exact ck_rel (hk i hi l u q1).1
theorem turn_z {P : Program} {w : World} {K : PySem.W.Frag} {tg : Expr} (it : Addr) {es : Array DictEntry} {ep : Nat} (hd : ob.data = .dict es ep) : Turn P w K tg (Itz P w a ob kvs) [it] it (fun i h => h.IsKeyIter it a i es.size ep) where
  mem := List.mem_singleton.mpr rfl
  obj := fun i h st b hb => by
    rw [List.mem_singleton.mp hb]
    obtain ⟨oi, e, _, dd⟩ := st
    exact ⟨oi, e, fun v z => by rw [dd] at z; cases z⟩
  keep := fun i h h' st k => let ⟨oi, e, r⟩ := st; ⟨oi, k it (List.mem_singleton.mpr rfl) oi e, r⟩
  item := by
    intro X hP hw hK hc i pins s σ H E I hf st hg
    subst hP hw hK
    obtain ⟨hH, hi⟩ := hg
    obtain ⟨f0, f1, _, f3, f4, f5⟩ := hf it (List.mem_singleton.mpr rfl)
    obtain ⟨ho, z, hne, vs, rel, dd⟩ := lck_of I hH
    obtain ⟨es', ep', q1, q2, q3, q4⟩ := lck_raw (X := X) ho rel dd
    cases hd.symm.trans q1
    obtain ⟨⟨l, v⟩, hlv⟩ : ∃ p, kvs[i]? = some p := ⟨kvs[i], List.getElem?_eq_getElem hi⟩
    have hlt : i < es.size := by rw [q3]; exact hi
    refine wpAny_pyNext_keys_item_raw st q2 hlt fun h' st' sb => ⟨es[i].key, rfl, ?_⟩
    have I1 : Inv X pins σ H { s with heap := h' } := I.turned (t' := s.toks) (fun b u hb e => (sb.2 b hb).trans e) f0 f1 f3 f4 f5
    obtain ⟨oi, e, c, di⟩ := id st'
    exact go_of (s := { s with heap := h' }) e c di (by decide) ⟨kvV l, H, I1, q4 i hlt l v hlv, ⟨rfl, l, v, hlv, rfl⟩, st', fun b hb => (hf b hb).1⟩
  done := by
    intro X hP hw hK hc i pins s σ H E I hf st hg
    subst hP hw hK
    obtain ⟨hH, hi⟩ := hg
    obtain ⟨f0, f1, _, f3, f4, f5⟩ := hf it (List.mem_singleton.mpr rfl)
    obtain ⟨ho, z, hne, vs, rel, dd⟩ := lck_of I hH
    obtain ⟨es', ep', q1, q2, q3, q4⟩ := lck_raw (X := X) ho rel dd
    cases hd.symm.trans q1
    exact wpAny_pyNext_keys_end_raw (I.ok.hd hc) st q2 (by rw [q3]; exact hi) fun h' eb => ⟨rfl, I.turned (t' := s.toks) (fun b u hb e => eb b u hb e) f0 f1 f3 f4 f5⟩
  self := fun A i s Q E st h => wpAny_pyIter_keyiter st h
def iLock (P : Program) (w : World) (te : TE) : TI := fun σ H R => te σ H fun x H1 => ∃ a kvs, x = .ref a ∧ H1 a = some (DicO P w a kvs) ∧ ∀ ob, R (Itz P w a ob kvs) (upd H1 a (LckO P w ob kvs a))
theorem pi_lock {tg e : Expr} {te : TE} (he : PE X e te) : PI X tg e (iLock X.prog X.w te) := by
  refine ⟨fun pins s σ H R I h => thn (he.run pins s σ H _ I h) fun u s1 hx => ?_⟩
  obtain ⟨x, H1, I1, rx, d, kvs, rfl, hH, q⟩ := hx
  cases (show u = Value.ref d from rx)
  obtain ⟨z, hne, vs, rel, dd⟩ := dz_of I1 hH
  have he' : ∃ o, s1.heap.get? d = some o := let ⟨o, _, _, ho, _⟩ := dd; ⟨o, ho⟩
  obtain ⟨ob, ho⟩ := he'
  obtain ⟨es, ep, q1, q2, q3, q4⟩ := lck_raw (X := X) ho rel dd
  have I2 : Inv X pins σ (upd H1 d (LckO X.prog X.w ob kvs d)) { s1 with heap := s1.heap, toks := s1.toks } :=
    I1.write (x := d) (e := d) (by rw [hH]; exact True.intro) (.inl rfl) (fun _ _ _ q => q) ⟨ob, ho⟩ (lck_ok ho z hne rel dd)
  exact wpAny_pyIter_dict_raw hne q2 (pi_one (tk := s1.toks) I2 _ (turn_z _ q1) ⟨_, Heap.get?_push_size _ rfl, rfl, rfl⟩ (q ob))
def rAtL (P : Program) (w : World) : R2 := fun x y H Q => ∃ a ob kvs k v, x = .ref a ∧ H a = some (LckO P w ob kvs a) ∧ y = kvV k ∧ valV kvs k = some v ∧ Q v H
theorem ix_lck : IxR X (rAtL X.prog X.w) := by
  intro value slice pins s σ H x y v u Q I rx ry h hs
  obtain ⟨a, ob, kvs, k, z, rfl, hH, rfl, hv, q⟩ := h
  cases (show v = Value.ref a from rx)
  obtain ⟨_, _, hd, vs, rel, dd⟩ := lck_of I hH
  obtain ⟨u', hu, ru⟩ := RelO.some_of (v := z) (o := valueAt vs k) (by rw [← hv]; exact rel.val k)
  exact PyProof.Rows.tail_any dd.typeIs PySem.F.slot_dict_getitem.lookup (wpAny_getItem_of (ck_of ry) dd.mapOf hu ⟨z, H, I.tok _, ru, q⟩) hs
end
/-! ### over data -/
/-- None and ints, as values -/
def flV : PyData → Option V
  | .none => some .non
  | .int i => some (.int i)
  | _ => none
def flL : List (Leaf × DV) → Option (List (Leaf × V))
  | [] => some []
  | (l, .imm d) :: r => match flV d, flL r with
    | some v, some vs => some ((l, v) :: vs)
    | _, _ => none
  | _ => none
section
variable {P : Program} {w : World} {K : PySem.W.Frag} {B : Bs} {S S' : DSt} {σ : L2.St} {ts : List (V × DV)} {H F : Hp} {α : List Addr} {v : V} {d : DV}
theorem flV_ok {p : PyData} {u : V} (e : flV p = some u) (h : VOk P w K F α v (.imm p)) : v = u := by
  cases p <;> first | (cases e; cases h; rfl) | cases e
theorem flV_rp {p : PyData} {u : V} (e : flV p = some u) : VOk P w K F α u (.imm p) := by
  cases p <;> first | (cases e; first | exact Rp.non | exact Rp.int _) | cases e
theorem flL_ok : ∀ {ks : List (Leaf × V)} {es : List (Leaf × DV)} {fs : List (Leaf × V)}, flL es = some fs → Paired (KVOk P w K F α) ks es → ks = fs
  | [], [], fs, e, _ => by cases e; rfl
  | p :: ks, (l, .imm q) :: es, fs, e, .cons h t => by
    have e : (match flV q, flL es with | some v, some vs => some ((l, v) :: vs) | _, _ => none) = some fs := e
    split at e
    · rename_i v vs e1 e2
      cases e
      rw [flL_ok e2 t]
      obtain ⟨h1, h2⟩ := h
      have h1 : p.1 = l := h1
      have := flV_ok e1 h2
      rw [← h1, ← this]
    · cases e
theorem flL_back : ∀ {es : List (Leaf × DV)} {fs : List (Leaf × V)}, flL es = some fs → Paired (KVOk P w K F α) fs es
  | [], fs, e => by cases e; exact .nil
  | (l, .imm q) :: es, fs, e => by
    have e : (match flV q, flL es with | some v, some vs => some ((l, v) :: vs) | _, _ => none) = some fs := e
    split at e
    · rename_i v vs e1 e2
      cases e
      exact .cons ⟨rfl, flV_rp e1⟩ (flL_back e2)
    · cases e
theorem kvD_rp (l : Leaf) : VOk P w K F α (kvV l) (.imm (kvD l)) := by
  cases l
  · exact Rp.non
  · exact Rp.int _
  · exact Rp.str _
/-- the walk of a dict in a cell: the cell is locked from now on -/
def diLock (P : Program) (w : World) (de : DTE) : DTI := fun S R => de S fun d S1 => match d with
  | .cell k => match S1.cell k with
    | some (.dic es) => match flL es with
      | some fs => ∀ ob, R (fs.map fun p => DY.one (.imm (kvD p.1))) (fun S' => S'.cell k = some (.ho (LckO P w ob fs))) (S1.put k (.ho (LckO P w ob fs)))
      | none => False
    | _ => False
  | _ => False
theorem snd_lock {te : TE} {de : DTE} (he : SndE P w K te de) : SndI P w K (iLock P w te) (diLock P w de) := fun B S σ ts H R Q h hd kk =>
  he B S σ ts H _ _ h hd fun x dx S1 H1 q o => by
    split at q
    · rename_i k
      split at q
      · rename_i es e1
        split at q
        · rename_i fs e2
          obtain ⟨F, α, o⟩ := o
          obtain ⟨a, c1, rfl⟩ := o.top
          obtain ⟨a', g1, g2, xs, g3, g4⟩ := o.ce k _ (cell_get e1)
          cases c1.symm.trans g1
          have ex := flL_ok e2 g4
          subst ex
          refine ⟨a, xs, rfl, g3, fun ob => ?_⟩
          have o2 := o.cellPut (o := LckO P w ob xs a) (u := .ho (LckO P w ob xs)) g1 g2 upd_same
          have same : ∀ (B2 : Bs) (S2 : DSt) (σ2 : L2.St) (H2 : Hp) (vs : List (V × DV)), (V.ref a, DV.cell k) ∈ vs → S2.cell k = some (.ho (LckO P w ob xs)) → StOk P w K B2 S2 σ2 vs H2 → H2 a = some (LckO P w ob xs a) := fun B2 S2 σ2 H2 vs hm hs ⟨F2, α2, z⟩ => by
            obtain ⟨b, b1, b2⟩ := z.tm _ hm
            cases b2
            obtain ⟨b', b1', b2', b3⟩ := z.ce k _ (cell_get hs)
            cases b1.symm.trans b1'
            exact b3
          refine kk _ _ _ _ (Itz P w a ob xs) (fun H2 => H2 a = some (LckO P w ob xs a)) (fun i H2 v H3 => H3 = H2 ∧ ∃ l u, xs[i]? = some (l, u) ∧ v = kvV l) [(.ref a, .cell k)] (q ob) (o2.sub fun z hz => by simpa using hz).ok ?_ ?_ ?_
          · exact ⟨fun i H2 hi hG => ⟨hG, by simpa using hi⟩, fun H2 hG => ⟨hG, by simp⟩, fun i H2 v H3 hi _ y => y⟩
          · exact fun B2 S2 σ2 H2 vs hv hs o2 => same B2 S2 σ2 H2 vs (hv _ (by simp)) hs o2
          · rintro B2 i S2 σ2 H2 v H3 vs hi hv hs ⟨F2, α2, z⟩ ⟨rfl, l, u, hlu, rfl⟩
            exact ⟨.one (.imm (kvD l)), by rw [List.getElem?_map, hlu]; rfl, F2, α2, z, kvD_rp (α := α2) l⟩
        · exact q.elim
      · exact q.elim
    · exact q.elim
theorem di_lock {X : Cx} {tg e : Expr} {de : DTE} (he : DE X e de) : DI X tg e (diLock X.prog X.w de) := by
  obtain ⟨t, a1, a2⟩ := he.ex
  exact ⟨_, pi_lock a1, snd_lock a2⟩
/-- d[k] of a locked dict -/
def gAtL (P : Program) (w : World) : D2 := fun x y S R => ∃ k ob es fs l d, x = .cell k ∧ S.cell k = some (.ho (LckO P w ob fs)) ∧ flL es = some fs ∧ keyOf y = some l ∧ valG es l = some d ∧ R d S
theorem snd_atL : SndR P w K (rAtL P w) (gAtL P w) := fun B S σ ts H x y dx dy R Q h hd k => by
  obtain ⟨j, ob, es, fs, l, d, rfl, hc, hf, hl, hv, q⟩ := hd
  obtain ⟨F, α, h⟩ := h
  obtain ⟨a, c1, rfl⟩ := h.top2
  obtain ⟨a', g1, g2, g3⟩ := h.ce j _ (cell_get hc)
  cases c1.symm.trans g1
  have hp := flL_back (P := P) (w := w) (K := K) (F := F) (α := α) hf
  obtain ⟨v, v1, v2⟩ := valG_ok hp hv
  exact ⟨a, ob, fs, l, v, rfl, g3, key_ok h.top hl, v1, k v d S H q ((h.sub mem2).add v2).ok⟩
theorem de_atL {X : Cx} {a b : Expr} {da db : DTE} {pos : Pos} (ha : DE X a da) (hb : DE X b db) (hs : PlainIx b := by exact fun _ _ => rfl) : DE X (.Subscript a b pos) (dOp (gOr gAt (gAtL X.prog X.w)) da db) := by
  obtain ⟨ta, a1, a2⟩ := ha.ex
  obtain ⟨tb, b1, b2⟩ := hb.ex
  exact ⟨_, pe_ix (.or (.or ix_dicZ ix_seq) ix_lck) a1 b1 hs, snd_op a2 b2 (snd_rOr snd_at snd_atL)⟩
/-- the lock is taken off -/
def tUnl (P : Program) (w : World) (te : TE) : TE := fun σ H Q => te σ H fun v H1 => ∃ a ob kvs, H1 a = some (LckO P w ob kvs a) ∧ Q v (upd H1 a (DicO P w a kvs))
theorem pe_unl {X : Cx} {e : Expr} {te : TE} (h : PE X e te) : PE X e (tUnl X.prog X.w te) := ⟨fun pins s σ H Q I q => by
  refine thn (h.run pins s σ H _ I q) fun u s1 hx => ?_
  obtain ⟨v, H1, I1, r1, a, ob, kvs, hH, q1⟩ := hx
  obtain ⟨ho, z, hd, vs, rel, dd⟩ := lck_of I1 hH
  have I2 : Inv X pins σ (upd H1 a (DicO X.prog X.w a kvs)) { s1 with heap := s1.heap, toks := s1.toks } :=
    I1.write (x := a) (e := a) (by rw [hH]; exact True.intro) (.inl rfl) (fun _ _ _ q => q) ⟨ob, ho⟩ (dz_ok z hd rel dd)
  exact ⟨v, _, I2, r1, q1⟩⟩
def dUnl (P : Program) (w : World) (de : DTE) : DTE := fun S R => de S fun d S1 => ∃ k ob es fs, S1.cell k = some (.ho (LckO P w ob fs)) ∧ flL es = some fs ∧ R d (S1.put k (.dic es))
theorem DE.unl {X : Cx} {e : Expr} {de : DTE} (h : DE X e de) : DE X e (dUnl X.prog X.w de) := by
  obtain ⟨t, a1, a2⟩ := h.ex
  refine ⟨_, pe_unl a1, fun B S σ ts H R Q o hd kk => a2 B S σ ts H _ _ o hd fun v d S1 H1 q o => ?_⟩
  obtain ⟨k, ob, es, fs, hc, hf, q⟩ := q
  obtain ⟨F, α, o⟩ := o
  obtain ⟨a, g1, g2, g3⟩ := o.ce k _ (cell_get hc)
  refine ⟨a, ob, fs, g3, kk v d _ _ q (o.cellPut (o := DicO X.prog X.w a fs) (u := .dic es) g1 g2 ⟨fs, upd_same, flL_back hf⟩).ok⟩
end
section
variable {P : Program} {w : World} {S : DSt} {R : DV → DSt → Prop} {RI : List DY → (DSt → Prop) → DSt → Prop} {de : DTE} {k : Nat} {es : List (Leaf × DV)} {fs : List (Leaf × V)} {ob : Obj} {y d : DV} {l : Leaf}
def kLock (P : Program) (w : World) (RI : List DY → (DSt → Prop) → DSt → Prop) : DV → DSt → Prop := fun d S1 => match d with
  | .cell k => match S1.cell k with
    | some (.dic es) => match flL es with
      | some fs => ∀ ob, RI (fs.map fun p => DY.one (.imm (kvD p.1))) (fun S' => S'.cell k = some (.ho (LckO P w ob fs))) (S1.put k (.ho (LckO P w ob fs)))
      | none => False
    | _ => False
  | _ => False
theorem r_iLock (h : de S (kLock P w RI)) : diLock P w de S RI := h
theorem r_kLock (e : S.cell k = some (.dic es)) (ef : flL es = some fs) (q : ∀ ob, RI (fs.map fun p => DY.one (.imm (kvD p.1))) (fun S' => S'.cell k = some (.ho (LckO P w ob fs))) (S.put k (.ho (LckO P w ob fs)))) : kLock P w RI (.cell k) S := by
  show match S.cell k with | some (.dic es) => _ | _ => False
  rw [e]
  dsimp only
  rw [ef]
  exact q
theorem r_atLk (hc : S.cell k = some (.ho (LckO P w ob fs))) (hf : flL es = some fs) (hl : keyOf y = some l) (hv : valG es l = some d) (q : R d S) : gOr gAt (gAtL P w) (.cell k) y S R := .inr ⟨k, ob, es, fs, l, d, rfl, hc, hf, hl, hv, q⟩
theorem r_atP {x : DV} (q : gAt x y S R) : gOr gAt (gAtL P w) x y S R := .inl q
theorem r_unl (h : de S fun d S1 => ∃ k ob es fs, S1.cell k = some (.ho (LckO P w ob fs)) ∧ flL es = some fs ∧ R d (S1.put k (.dic es))) : dUnl P w de S R := h
end
end DL

set_option Elab.async false
set_option linter.all false
set_option maxRecDepth 100000
set_option autoImplicit false
set_option maxHeartbeats 2000000
namespace DL
open PySem PySem.Spec L2 PyProof.Rows

/-! ## repr of a dict in a cell: keys and values None, ints, texts -/
/-- flat data: no address in it -/
inductive FlR : V → PyData → Prop
  | non : FlR .non .none
  | int (i : Int) : FlR (.int i) (.int i)
theorem flr_reads {h : Heap} {v : V} {d : PyData} {u : Value} (f : FlR v d) (r : RelV v u) : Reads h u d [] := by
  cases f with
  | non => cases (show u = Value.none from r); exact .none
  | int i => obtain ⟨t, rfl⟩ := (show ∃ t, u = Value.int i t from r); exact .int i t
theorem leaf_reads {h : Heap} {l : Leaf} {u : Value} (r : RelV (kvV l) u) : Reads h u (kvD l) [] := by
  cases l with
  | none => cases (show u = Value.none from r); exact .none
  | num i => obtain ⟨t, rfl⟩ := (show ∃ t, u = Value.int i t from r); exact .int i t
  | text x => obtain ⟨t, rfl⟩ := (show ∃ t, u = Value.str x t from r); exact .str x t
def FlK (kvs : List (Leaf × V)) (fs : List (Leaf × PyData)) : Prop := Paired (fun p q => p.1 = q.1 ∧ FlR p.2 q.2) kvs fs
def flD (fs : List (Leaf × PyData)) : PyData := .dict (fs.map fun q => (kvD q.1, q.2))
theorem flk_reads {P : Program} {w : World} {h : Heap} : ∀ {kvs : List (Leaf × V)} {fs : List (Leaf × PyData)} {vs : List (Leaf × Value)} {es : List DictEntry}, FlK kvs fs → KV kvs vs → Pairs (cK P w) es vs →
    ReadsAll h (es.map (·.key)) ((fs.map fun q => (kvD q.1, q.2)).map (·.1)) [] ∧ ReadsAll h (es.map (·.val)) ((fs.map fun q => (kvD q.1, q.2)).map (·.2)) []
  | _, _, _, _, .nil, r, p => by cases r; cases p; exact ⟨.nil, .nil⟩
  | (k, v) :: kvs, (l, d) :: fs, _, _, .cons f t, r, p => by
    cases r with
    | cons r1 r2 =>
      cases p with
      | cons p1 p2 p3 =>
        obtain ⟨i1, i2⟩ := flk_reads (h := h) t r2 p3
        obtain ⟨f1, f2⟩ := f
        obtain ⟨r1a, r1b⟩ := r1
        dsimp only at f1 f2 r1a r1b
        subst f1
        have rk := ck_rel p1
        rw [← r1a] at rk
        exact ⟨.cons (as := []) (bs := []) (leaf_reads rk) i1, .cons (as := []) (bs := []) (by dsimp only; rw [p2]; exact flr_reads f2 r1b) i2⟩
theorem call_reprD {X : Cx} (hg : X.A.guards = some []) (hu : X.A.units + 60 < cLine) : CallR X (.builtin "repr") (fun xs H Q => ∃ a kvs fs, xs = [.ref a] ∧ H a = some (DicO X.prog X.w a kvs) ∧ FlK kvs fs ∧ (flD fs).showable = true ∧ wtD (flD fs) ≤ 10000000 ∧ (flD fs).depth ≤ 50 ∧ Q (.str (flD fs).shown) H) := by
  intro pins s σ H xs us Q I r h
  obtain ⟨a, kvs, fs, rfl, hH, hf, h1, h2, h3, q⟩ := h
  rw [Vals.ref1 r]
  obtain ⟨z, hs, vs, rel, o, es, ep, ho, hx, hd, _, hp, _⟩ := dz_of I hH
  obtain ⟨i1, i2⟩ := flk_reads (h := s.heap) hf rel hp
  have hl := shown_le (flD fs)
  have hne : sysModules ≠ a := fun e => by
    rw [e] at hs
    simp at hs
  have ra : Reads s.heap (.ref a) (flD fs) (a :: [] ++ []) := .dict ho hx.1 hd i1 i2
  exact repr_of_reads' ra h1 (fun _ q => by simp at q; exact hne q) hg (by omega) (fun _ _ e => e) (fun h' u tk hk => ⟨.str _, H, I.kept hk, ⟨_, rfl⟩, q⟩) (by rw [sizeLine_eq]; omega)
/-- es are flat, fs as data -/
def FlE (es : List (Leaf × DV)) (fs : List (Leaf × PyData)) : Prop := es = fs.map (fun q => (q.1, DV.imm q.2)) ∧ ∀ q ∈ fs, q.2 = .none ∨ ∃ i, q.2 = .int i
def gReprX : DC1 := fun ds S R => gReprC ds S R ∨ (match ds with
  | [.cell k] => match S.cell k with
    | some (.dic es) => ∃ fs, FlE es fs ∧ (flD fs).showable = true ∧ wtD (flD fs) ≤ 10000000 ∧ (flD fs).depth ≤ 50 ∧ R (dS (flD fs).shown) S
    | _ => False
  | _ => False)
section
variable {P : Program} {w : World} {K : PySem.W.Frag} {F : Hp} {α : List Addr}
theorem flk_of : ∀ {kvs : List (Leaf × V)} {fs : List (Leaf × PyData)}, Paired (KVOk P w K F α) kvs (fs.map fun q => (q.1, DV.imm q.2)) → (∀ q ∈ fs, q.2 = .none ∨ ∃ i, q.2 = .int i) → FlK kvs fs
  | [], [], _, _ => .nil
  | (k, v) :: kvs, (l, d) :: fs, .cons h t, hf => by
    refine .cons ⟨h.1, ?_⟩ (flk_of t fun z hz => hf z (List.mem_cons_of_mem _ hz))
    have hv : Rp P w K F v d := h.2
    have e : d = .none ∨ ∃ i, d = .int i := hf (l, d) List.mem_cons_self
    rcases e with rfl | ⟨i, rfl⟩
    · cases hv; exact .non
    · cases hv; exact .int i
end
theorem cd_reprX {X : Cx} (hg : X.A.guards = some []) (hu : X.A.units + 60 < cLine) : CallD X (.builtin "repr") gReprX := by
  obtain ⟨r, c1, c2⟩ := (cd_reprC hg hu).ex
  refine ⟨_, .or c1 (call_reprD hg hu), fun B S σ ts H xs ds R Q hl h hd k => ?_⟩
  rcases hd with hd | hd
  · exact .inl (c2 B S σ ts H xs ds R Q hl h hd k)
  · split at hd
    · rename_i kk
      split at hd
      · rename_i es e
        obtain ⟨fs, ⟨rfl, hf⟩, h1, h2, h3, hd⟩ := hd
        match xs, hl with
        | [x], _ =>
          obtain ⟨F, α, h⟩ := h
          obtain ⟨a, c1, rfl⟩ := h.tm (x, .cell kk) (by simp)
          obtain ⟨a', g1, g2, ks, g3, g4⟩ := h.ce kk _ (cell_get e)
          cases c1.symm.trans g1
          exact .inr ⟨a, ks, fs, rfl, g3, flk_of g4 hf, h1, h2, h3, k _ _ S H hd ((h.sub memA).add vstr).ok⟩
      · exact hd.elim
    · exact hd.elim
section
variable {S : DSt} {R : DV → DSt → Prop} {k : Nat}
theorem r_reprXI {p : PyData} (h : CanShow p) (q : R (dS p.shown) S) : gReprX [.imm p] S R := .inl (r_reprI h q)
theorem r_reprXC {d : DV} {p : PyData} (fz : List Nat) (hf : FzD S fz d p) (h : CanShow p) (q : R (dS p.shown) S) : gReprX [d] S R := .inl (r_reprC fz hf h q)
theorem r_reprXD {es : List (Leaf × DV)} {fs : List (Leaf × PyData)} (e : S.cell k = some (.dic es)) (hf : FlE es fs) (h1 : (flD fs).showable = true) (h2 : wtD (flD fs) ≤ 10000000) (h3 : (flD fs).depth ≤ 50) (q : R (dS (flD fs).shown) S) : gReprX [.cell k] S R := .inr (by
  show match S.cell k with | some (.dic es) => _ | _ => False
  rw [e]
  exact ⟨fs, hf, h1, h2, h3, q⟩)
end
end DL

set_option Elab.async false
set_option linter.all false
set_option maxRecDepth 100000
set_option autoImplicit false
set_option maxHeartbeats 2000000
namespace DL
open PySem PySem.Spec L2 PyProof.Rows

/-! ## one keyword-only parameter with a default -/
section
variable {K : PySem.W.Frag} {fd : FuncData} {ps : List Str} {n : Nat} {D : Addr} {kn : Str} {u : Value}
theorem binds_kw (hD : PySem.W.nsIn K D kn = some (some u)) (hn : n + 1 = ps.length) (h : ∀ us : List Value, us.length = n → KwChain D [(kn, u)] (bindArgs fd ⟨us, []⟩) (ps.zip (us ++ [u]))) : Binds K fd ps [u] := fun s us X hl =>
  BindsTo.of_looks fun M => KwChain.looks X (fun q hq => by rw [List.mem_singleton.mp hq]; exact hD) (h us (by rw [List.length_append, List.length_singleton] at hl; omega))
theorem kbn_kw (h : ∀ us ws : List Value, us.length = n → ws.length = 1 → bindArgs fd ⟨us, [kn].zip ws⟩ = pure (ps.zip (us ++ ws))) : KBn K fd ps n [kn] (fun us ws => us ++ ws) (fun vs zs => vs ++ zs) :=
  ⟨fun s us ws _ l1 l2 => .of_eq (h us ws l1 l2), fun r1 r2 => r1.append r2⟩
end
section
variable {X : Cx} {CX : CXT} {k n : Nat} {f : Addr} {fd : FuncData} {ps ks : List Str} {sp : Sp} {E : XK} {x : Str} {p pos : Pos} {e : Expr} {es : List Expr} {kws : List Keyword} {t tk : TA} {g : List Value → List Value → List Value} {gV : List V → List V → List V}
theorem pe_callNG (F : FnG X.prog X.w X.K X.mg X.base CX k f fd ps sp) (hr : Room k X.A) (hgd : X.A.guards = some []) (hg : Gl X x) (hm : X.mg x = some (.ref f)) (hk : PySem.W.keepIn X.K (.ref f) = true) (hb : KBn X.K fd ps n ks g gV) (hx : Passes CX X E)
    (ha : PA X (e :: es) t) (hkw : PK X kws tk) (hall : (backToKw pos (keywordEach kws X.env)).all (·.1.isSome) = true := by rfl) (hks : (backToKw pos (keywordEach kws X.env)).filterMap (·.1) = ks := by rfl)
    (hdb : (x == ("__debug__" : Str)) = false := by decide) (he : starEach (e :: es) X.env = (false, eval e X.env) :: starEach es X.env := by rfl)
    (hpl : ((backTo pos (starEach (e :: es) X.env)).any (·.1) || (backToKw pos (keywordEach kws X.env)).any (·.1.isNone)) = false := by rfl) :
    PE X (.Call (.Name x p) (e :: es) kws pos) (tCallN n ks.length sp gV E t tk) := ⟨fun pins s σ H Q I h =>
  wpAny_Call_Name_kw (ld_glob I hg hm (PySem.W.callWith_KW (h₀ := X.base) I.ok.mod.kin hk hall (thn (ha.run pos pins s σ H _ I h) fun us s1 hu =>
    let ⟨_, H1, I1, r, q⟩ := hu
    thn (hkw.run pos pins s1 σ H1 _ I1 q) fun ws s2 hw => by
      obtain ⟨zs, H2, I2, rz, l1, l2, q2⟩ := hw
      rw [hks]
      exact ⟨I2.kIn, wpAny_call (out_fn F hr hgd hx I2 (hb.to s2 us ws I2.kIn (r.length.symm.trans l1) (rz.length.symm.trans l2)) (hb.rel r rz) q2)⟩) hpl he) hdb)⟩
end
structure DKw (X : Cx) (kws : List Keyword) (dr : DTA) : Prop where
  ex : ∃ t, PK X kws t ∧ SndA X.prog X.w X.K t dr
section
variable {X : Cx} {nm : Option Str} {e : Expr} {kpos : Pos} {kws : List Keyword} {de : DTE} {dr da dk : DTA}
theorem dk_nil : DKw X [] dNil := ⟨_, pk_nil, snd_nil⟩
theorem dk_cons (he : DE X e de) (hr : DKw X kws dr) : DKw X (⟨nm, e, kpos⟩ :: kws) (dCons de dr) := by
  obtain ⟨t, a1, a2⟩ := he.ex
  obtain ⟨u, b1, b2⟩ := hr.ex
  exact ⟨_, pk_cons a1 b1, snd_cons a2 b2⟩
def dBoth (n m : Nat) (da dk : DTA) : DTA := fun S R => da S fun ds S1 => dk S1 fun zs S2 => ds.length = n ∧ zs.length = m ∧ R (ds ++ zs) S2
def tBoth (n m : Nat) (t tk : TA) : TA := fun σ H Q => t σ H fun vs H1 => tk σ H1 fun zs H2 => vs.length = n ∧ zs.length = m ∧ Q (vs ++ zs) H2
theorem snd_both {P : Program} {w : World} {K : PySem.W.Frag} {n m : Nat} {t tk : TA} (ha : SndA P w K t da) (hk : SndA P w K tk dk) : SndA P w K (tBoth n m t tk) (dBoth n m da dk) := fun B S σ ts H R Q h hd k =>
  ha B S σ ts H _ _ h hd fun vs ds S1 H1 hl q o => hk B S1 σ _ H1 _ _ o q fun zs es S2 H2 hl2 q2 o2 =>
    ⟨by rw [hl]; exact q2.1, by rw [hl2]; exact q2.2.1, k (vs ++ zs) (ds ++ es) S2 H2 (by rw [List.length_append, List.length_append, hl, hl2]) q2.2.2 (o2.sub fun p hp => by
      rw [List.zip_append hl, List.append_assoc] at hp
      rcases List.mem_append.mp hp with z | z
      · exact List.mem_append_right _ (List.mem_append_left _ z)
      · rcases List.mem_append.mp z with z | z
        · exact List.mem_append_left _ z
        · exact List.mem_append_right _ (List.mem_append_right _ z))⟩
/-- f(a, .., k = v) -/
def dCallK (dsp : DSp) (n m : Nat) (da dk : DTA) : DTE := dCall dsp [] (dBoth n m da dk)
theorem de_callK {k n : Nat} {f : Addr} {fd : FuncData} {ps ks : List Str} {dsp : DSp} {es : List Expr} {x : Str} {p pos : Pos}
    (F : DFn X.prog X.w X.K X.mg X.base k f fd ps dsp) (hr : Room k X.A) (hgd : X.A.guards = some []) (hg : Gl X x) (hm : X.mg x = some (.ref f)) (hk : PySem.W.keepIn X.K (.ref f) = true) (hb : KBn X.K fd ps n ks (fun us ws => us ++ ws) (fun vs zs => vs ++ zs))
    (ha : DA X (e :: es) da) (hkw : DKw X kws dk) (hall : (backToKw pos (keywordEach kws X.env)).all (·.1.isSome) = true := by rfl) (hks : (backToKw pos (keywordEach kws X.env)).filterMap (·.1) = ks := by rfl)
    (hdb : (x == ("__debug__" : Str)) = false := by decide) (he : starEach (e :: es) X.env = (false, eval e X.env) :: starEach es X.env := by rfl)
    (hpl : ((backTo pos (starEach (e :: es) X.env)).any (·.1) || (backToKw pos (keywordEach kws X.env)).any (·.1.isNone)) = false := by rfl) :
    DE X (.Call (.Name x p) (e :: es) kws pos) (dCallK dsp n ks.length da dk) := by
  obtain ⟨t, a1, a2⟩ := ha.ex
  obtain ⟨u, b1, b2⟩ := hkw.ex
  refine ⟨_, pe_callNG (E := fun _ _ _ => False) F.fn hr hgd hg hm hk hb pass0 a1 b1 hall hks hdb he hpl, fun B S σ ts H R Q o hd kk => ?_⟩
  have q := snd_call (E := fun _ _ _ => False) (snd_both (n := n) (m := ks.length) a2 b2) (dvs := []) (dds := []) (fun _ _ => .nil) B S σ ts H R Q o hd kk
  unfold tCall tBoth at q
  simp only [List.append_nil] at q
  exact q
end
section
variable {S : DSt} {R : DV → DSt → Prop} {dsp : DSp} {n m : Nat} {da dk : DTA} {RA : List DV → DSt → Prop} {ds zs : List DV}
theorem r_callK (h : dBoth n m da dk S fun es S1 => ∃ ks, kCall dsp R (es ++ []) S1 ks) : dCallK dsp n m da dk S R := h
theorem r_both (h : da S fun ds S1 => dk S1 fun zs S2 => ds.length = n ∧ zs.length = m ∧ RA (ds ++ zs) S2) : dBoth n m da dk S RA := h
end

/-! ## xs.index(t), xs.count(t): data of any kind -/
def gIndexD : DM := fun x ds S R => match ds with
  | [y] => ∃ ps d j z, S.dat x = some (.list ps) ∧ S.dat y = some d ∧ SeqAt.shaped (.list ps) = true ∧ SeqAt.shaped d = true ∧ ps[j]? = some z ∧ PyData.eqv z d = true ∧ (∀ (m : Nat) (z' : PyData), m < j → ps[m]? = some z' → PyData.eqv z' d = false) ∧ R (dI (j : Nat)) S
  | _ => False
theorem md_indexD {X : Cx} (hu : X.A.units + 65 < cLine) : MthD X "list.index" gIndexD := ⟨_, mt_indexD hu, fun B S σ ts H x dx xs ds R Q hl h hd k => by
  match ds, hd with
  | [y], hd =>
    match xs, hl with
    | [u], _ =>
      obtain ⟨F, α, h⟩ := h
      obtain ⟨ps, d, j, z, e1, e2, s1, s2, h1, h2, h3, q⟩ := hd
      have g1 := h.dat (h.tm (x, dx) (by simp)) e1 s1
      have g2 := h.dat (h.tm (u, y) (by simp)) e2 s2
      cases g1 with
      | lst a1 a2 => exact ⟨_, u, d, ps, j, z, rfl, rfl, .lst a1 a2, g2, s1, s2, h1, h2, h3, k _ _ S H q ((h.sub fun p hp => by simp [hp]).add vint).ok⟩⟩
def rCountD (K : PySem.W.Frag) : V → List V → Hp → VK → Prop := fun x xs H Q => ∃ (a : Addr) (y : V) (d : PyData) (ds : List PyData), x = V.ref a ∧ xs = [y] ∧ Dp K H (V.ref a) (.list ds) ∧ Dp K H y d ∧
  SeqAt.shaped (.list ds) = true ∧ SeqAt.shaped d = true ∧ Q (.int ((ds.countP fun z => PyData.eqv z d) : Nat)) H
theorem mt_countD {X : Cx} (hu : X.A.units + 65 < cLine) : MtR X "list.count" (rCountD X.K) := by
  intro pins s σ H x xs v us Q I rx rxs h
  obtain ⟨a, y, d, ds, rfl, rfl, hl, hy, sl, sd, q⟩ := h
  cases rx
  obtain ⟨u, rfl, ru⟩ := rxs.one
  obtain ⟨bs, r1⟩ := Dp.reads I d y u hy ru
  have hxs : PyData.canLayAll0 ds = true := SeqAt.canLay_of_shaped sl
  cases hl with
  | lst hs ha =>
    obtain ⟨its, rv, ⟨⟨cls, dd, data, sls⟩, n, ho, hc, hdn, hdt⟩, hlen⟩ := I.list hs
    simp only at hc hdt
    subst hc hdt
    obtain ⟨as, r2⟩ := Dp.readsAll I ds _ its ha rv
    have hmap : its.map (SeqAt.readOf s.heap) = ds := SeqAt.readsAll_map ds its as hxs r2
    have ec : its.countP (fun u => PyData.eqv (SeqAt.readOf s.heap u) d) = ds.countP fun z => PyData.eqv z d := by rw [← hmap, List.countP_map]; rfl
    refine call_meets PySem.F.slot_list_count ⟨_, ho, rfl⟩ PySem.F.entry_list_count (PySem.F.args_list_count_2 _ _)
      (SeqAt.list_countAt a its.toArray n dd sls u (fun u => PyData.eqv (SeqAt.readOf s.heap u) d)) ⟨ho, SeqAt.items_eqAt (vs := its.toArray) (show ReadsAll s.heap its.toArray.toList ds as from r2) r1 hxs (SeqAt.canLay_of_shaped sd) (room_in_shaped sd hu), ?_⟩
    exact ⟨.int ((ds.countP fun z => PyData.eqv z d) : Nat), H, I.tok _, ⟨s.toks, by rw [← ec]⟩, q⟩
def gCountD : DM := fun x ds S R => match ds with
  | [y] => ∃ ps d, S.dat x = some (.list ps) ∧ S.dat y = some d ∧ SeqAt.shaped (.list ps) = true ∧ SeqAt.shaped d = true ∧ R (dI ((ps.countP fun z => PyData.eqv z d) : Nat)) S
  | _ => False
theorem md_countD {X : Cx} (hu : X.A.units + 65 < cLine) : MthD X "list.count" gCountD := ⟨_, mt_countD hu, fun B S σ ts H x dx xs ds R Q hl h hd k => by
  match ds, hd with
  | [y], hd =>
    match xs, hl with
    | [u], _ =>
      obtain ⟨F, α, h⟩ := h
      obtain ⟨ps, d, e1, e2, s1, s2, q⟩ := hd
      have g1 := h.dat (h.tm (x, dx) (by simp)) e1 s1
      have g2 := h.dat (h.tm (u, y) (by simp)) e2 s2
      cases g1 with
      | lst a1 a2 => exact ⟨_, u, d, ps, rfl, rfl, .lst a1 a2, g2, s1, s2, k _ _ S H q ((h.sub fun p hp => by simp [hp]).add vint).ok⟩⟩
section
variable {S : DSt} {R : DV → DSt → Prop} {x y : DV} {ps : List PyData} {d : PyData}
theorem r_indexD {j : Nat} {z : PyData} (e1 : S.dat x = some (.list ps)) (e2 : S.dat y = some d) (s1 : SeqAt.shaped (.list ps) = true) (s2 : SeqAt.shaped d = true) (h1 : ps[j]? = some z) (h2 : PyData.eqv z d = true)
    (h3 : ∀ (m : Nat) (z' : PyData), m < j → ps[m]? = some z' → PyData.eqv z' d = false) (q : R (dI (j : Nat)) S) : gIndexD x [y] S R := ⟨ps, d, j, z, e1, e2, s1, s2, h1, h2, h3, q⟩
theorem r_countD (e1 : S.dat x = some (.list ps)) (e2 : S.dat y = some d) (s1 : SeqAt.shaped (.list ps) = true) (s2 : SeqAt.shaped d = true) (q : R (dI ((ps.countP fun z => PyData.eqv z d) : Nat)) S) : gCountD x [y] S R := ⟨ps, d, e1, e2, s1, s2, q⟩
end
end DL

set_option Elab.async false
set_option linter.all false
set_option maxRecDepth 100000
set_option autoImplicit false
set_option maxHeartbeats 2000000
namespace DL
open PySem PySem.Spec L2 PyProof.Rows

/-! ## x *= e for a name x and ints -/
section
variable {X : Cx} {e : Expr} {de : DTE} {pos : Pos}
theorem ds_augMul {i : Nat} {x : Str} {pos' : Pos} (hN : X.N.Nodup) (hi : X.N[i]? = some x) (hx : Loc X.env.scope x) (he : DE X e de) (hf : X.fn x = true ∨ X.env.scope.names.lookup x = some .local := by first | exact .inl rfl | exact .inr rfl | assumption) :
    DS X (.AugAssign (.Name x pos') .Mult e pos) (dAug i (gII CMul fun i j => dI (i * j)) de) := by
  obtain ⟨t, a1, a2⟩ := he.ex
  refine ⟨_, ps_aug hN hi hx a1 (ti := rI CMul fun i j => .int (i * j)) iop_mul hf, fun B S σ ts H D G h hd l => ?_⟩
  unfold dAug at hd
  cases e1 : S.get i with
  | none => rw [e1] at hd; exact hd.elim
  | some d =>
    rw [e1] at hd
    obtain ⟨F, α, h⟩ := h
    obtain ⟨v, h1, h2⟩ := h.sl i d (get_slot e1)
    refine ⟨v, h1, a2 B S σ _ H _ _ (h.add h2).ok hd fun y dy S1 H1 q o => ?_⟩
    unfold gII at q
    split at q
    · rename_i a b ea eb
      obtain ⟨c, q⟩ := q
      rw [int?_eq ea, int?_eq eb] at o
      obtain ⟨F', α', o⟩ := o
      exact ⟨a, b, vok_int o.top2, vok_int o.top, c, l.nx _ _ H1 q ((o.sub mem2).setSlot vint).ok⟩
    · exact q.elim
theorem de_callK1 {k n : Nat} {f : Addr} {fd : FuncData} {ps : List Str} {kn : Str} {dsp : DSp} {es : List Expr} {kws : List Keyword} {x : Str} {p pos : Pos} {da dk : DTA}
    (F : DFn X.prog X.w X.K X.mg X.base k f fd ps dsp) (hr : Room k X.A) (hgd : X.A.guards = some []) (hg : Gl X x) (hm : X.mg x = some (.ref f)) (hk : PySem.W.keepIn X.K (.ref f) = true) (hb : KBn X.K fd ps n [kn] (fun us ws => us ++ ws) (fun vs zs => vs ++ zs))
    (ha : DA X (e :: es) da) (hkw : DKw X kws dk) (hall : (backToKw pos (keywordEach kws X.env)).all (·.1.isSome) = true := by rfl) (hks : (backToKw pos (keywordEach kws X.env)).filterMap (·.1) = [kn] := by rfl)
    (hdb : (x == ("__debug__" : Str)) = false := by decide) (he : starEach (e :: es) X.env = (false, eval e X.env) :: starEach es X.env := by rfl)
    (hpl : ((backTo pos (starEach (e :: es) X.env)).any (·.1) || (backToKw pos (keywordEach kws X.env)).any (·.1.isNone)) = false := by rfl) :
    DE X (.Call (.Name x p) (e :: es) kws pos) (dCallK dsp n 1 da dk) := de_callK F hr hgd hg hm hk hb ha hkw hall hks hdb he hpl
theorem r_gIIc {S : DSt} {R : DV → DSt → Prop} {C : Int → Int → Prop} {f : Int → Int → DV} {m n : Int} (c : C m n) (q : R (f m n) S) : gII C f (dI m) (dI n) S R := ⟨c, q⟩
end
end DL

set_option Elab.async false
set_option linter.all false
set_option maxRecDepth 100000
set_option autoImplicit false
set_option maxHeartbeats 2000000
namespace DL
open PySem PySem.Spec L2 PyProof.Rows

/-! ## dict(xs), xs a list of pairs -/
def mergeL (kvs more : List (Leaf × V)) : List (Leaf × V) := more.foldl (fun acc kv => putK acc kv.1 kv.2) kvs
def mergeG (es more : List (Leaf × DV)) : List (Leaf × DV) := more.foldl (fun acc kv => putG acc kv.1 kv.2) es
theorem mergeL_kv {more : List (Leaf × V)} {rs : List (Leaf × Value)} (r : KV more rs) : ∀ {kvs : List (Leaf × V)} {vs : List (Leaf × Value)}, KV kvs vs → KV (mergeL kvs more) (PySem.merged vs rs) := by
  unfold KV at r
  induction r with
  | nil => exact fun h => h
  | @cons p q ps qs h _ go =>
    intro kvs vs base
    obtain ⟨e, hv⟩ := h
    refine go (show KV (putK kvs p.1 p.2) (stored vs q.1 q.2) from ?_)
    rw [← e]
    exact base.put _ hv
theorem mergeL_len : ∀ (more kvs : List (Leaf × V)), (mergeL kvs more).length ≤ kvs.length + more.length
  | [], kvs => Nat.le_refl _
  | p :: more, kvs => by
    have h1 := mergeL_len more (putK kvs p.1 p.2)
    have h2 := length_putK kvs p.1 p.2
    rw [List.length_cons]
    show (mergeL (putK kvs p.1 p.2) more).length ≤ _
    omega
section
variable {P : Program} {w : World} {K : PySem.W.Frag} {F H : Hp} {α : List Addr}
theorem mergeG_ok {more : List (Leaf × V)} {es : List (Leaf × DV)} (h : Paired (KVOk P w K F α) more es) : ∀ {kvs : List (Leaf × V)} {fs : List (Leaf × DV)}, Paired (KVOk P w K F α) kvs fs → Paired (KVOk P w K F α) (mergeL kvs more) (mergeG fs es) := by
  induction h with
  | nil => exact fun q => q
  | @cons p q ps qs h _ go =>
    intro kvs fs base
    obtain ⟨e, hv⟩ := h
    refine go (show Paired (KVOk P w K F α) (putK kvs p.1 p.2) (putG fs q.1 q.2) from ?_)
    rw [← e]
    exact putG_ok base _ hv
end
section
variable {X : Cx} {pins : List (Addr × Obj)} {σ : L2.St} {H : Hp} {s : Shared}
/-- pairs that stand in the heap, read once: their keys and values as objects, and what the keys are -/
theorem pairsZ (I : Inv X pins σ H s) {as : List Addr} {kvs : List (Leaf × V)} (h : Paired (fun p kv => SqT X.K H p [kvV kv.1, kv.2]) as kvs) :
    ∃ (vv : List (Value × Value)) (prs : List (Leaf × Value)), KV kvs prs ∧ vv.length = as.length ∧ prs.length = as.length ∧
      ∀ (j : Nat) (k v : Value), vv[j]? = some (k, v) → ∃ (b : Addr) (l : Leaf), as[j]? = some b ∧ IsTup s.heap b #[k, v] ∧ prs[j]? = some (l, v) ∧ (cK X.prog X.w).is l k = true := by
  induction h with
  | nil => exact ⟨[], [], .nil, rfl, rfl, fun j k v e => by simp at e⟩
  | @cons p kv as kvs h _ ih =>
    obtain ⟨vv, prs, r, l1, l2, hp⟩ := ih
    obtain ⟨its, rv, tup, _⟩ := I.tuple h
    obtain ⟨k, v, rfl, rk, rv2⟩ := vals2 rv
    refine ⟨(k, v) :: vv, (kv.1, v) :: prs, .cons ⟨rfl, rv2⟩ r, by simp [l1], by simp [l2], fun j k' v' e => ?_⟩
    cases j with
    | zero =>
      cases (show (k, v) = (k', v') from Option.some.inj e)
      exact ⟨p, kv.1, rfl, tup, rfl, ck_of rk⟩
    | succ j =>
      obtain ⟨b, l, e1, e2, e3, e4⟩ := hp j k' v' (by simpa using e)
      exact ⟨b, l, by simpa using e1, e2, by simpa using e3, e4⟩
def rPairs (P : Program) (w : World) (K : PySem.W.Frag) : List V → Hp → VK → Prop := fun xs H Q => ∃ (a : Addr) (as : List Addr) (kvs : List (Leaf × V)), xs = [.ref a] ∧ SqL K H a (as.map V.ref) ∧ Paired (fun p kv => SqT K H p [kvV kv.1, kv.2]) as kvs ∧
  ∀ p, H p = none → Q (.ref p) (upd H p (DicO P w p (mergeL [] kvs)))
theorem call_pairsZ (hcalm : X.calm = true) : CallR X (.type "dict") (rPairs X.prog X.w X.K) := by
  intro pins s σ H xs us Q I r q
  obtain ⟨a, as, kvs, rfl, hq, hp, q⟩ := q
  obtain ⟨u, rfl, rx⟩ := vals1 r
  cases (show u = Value.ref a from rx)
  obtain ⟨its, rv, ⟨o, n, ho, hc, hd, hdat⟩, hz⟩ := I.list hq
  have ei := refs_at rv
  subst ei
  rw [List.length_map] at hz
  obtain ⟨vv, prs, rel, l1, l2, hpr⟩ := pairsZ I hp
  have items : PairItems s.heap (as.map Value.ref).toArray (fun j => as.getD j 0) vv := by
    refine ⟨by simp [l1], fun j k v e => ?_⟩
    obtain ⟨b, l, e1, e2, _⟩ := hpr j k v e
    refine ⟨by simp [e1], ?_⟩
    show PairAt s.heap (as.getD j 0) k v
    rw [show as.getD j 0 = b by simp [List.getD, e1]]
    exact .inl e2
  refine call_dict_pairs (knd := cK X.prog X.w) (kvs := prs) (PairArg.list a (as.map Value.ref).toArray (fun j => as.getD j 0) vv) (I.ok.hd hcalm) ⟨⟨o, n, ho, hc, hd, hdat⟩, items⟩ ?_ (by rw [l1]; exact hz) fun h' tk hd' k => ?_
  · refine ⟨by rw [l1, l2], fun i k v e => ?_⟩
    obtain ⟨b, l, _, _, e3, e4⟩ := hpr i k v e
    exact ⟨l, e3, e4⟩
  · have big : (s.heap.objs.size == sysModules) = false := beq_eq_false_iff_ne.mpr (Nat.ne_of_gt I.big)
    have hlen : (mergeL [] kvs).length ≤ sizeLine := by
      have h1 := mergeL_len kvs []
      have h2 := Paired.length hp
      rw [List.length_nil] at h1
      omega
    exact ⟨.ref s.heap.objs.size, _, I.laid (t' := tk) (fun b o e => k b o (by simp) e) (Nat.le_refl _) (dz_ok hlen big (mergeL_kv rel .nil) hd'), rfl, q _ (I.hok.fresh (Nat.le_refl _))⟩
end
/-! ### over data -/
def pairsL : List PyData → Option (List (Leaf × DV))
  | [] => some []
  | .tuple [k, v] :: r => match leafOf k, pairsL r with
    | some l, some s => some ((l, .imm v) :: s)
    | _, _ => none
  | _ => none
section
variable {P : Program} {w : World} {K : PySem.W.Frag} {F H : Hp} {α : List Addr}
theorem pairs_data (fh : ∀ b o, F b = some o → H b = some o) : ∀ {ps : List PyData} {xs : List V} {es : List (Leaf × DV)}, RpAll P w K F xs ps → pairsL ps = some es →
    ∃ (as : List Addr) (kvs : List (Leaf × V)), xs = as.map V.ref ∧ Paired (fun p kv => SqT K H p [kvV kv.1, kv.2]) as kvs ∧ Paired (KVOk P w K F α) kvs es
  | [], _, es, h, e => by
    cases h
    cases e
    exact ⟨[], [], rfl, .nil, .nil⟩
  | p :: ps, _, es, h, e => by
    cases h with
    | cons h1 h2 =>
      unfold pairsL at e
      split at e
      · rename_i e0; cases e0
      · rename_i k v r e0
        cases e0
        split at e
        · rename_i l s e1 e2
          cases e
          obtain ⟨as, kvs, rfl, q1, q2⟩ := pairs_data fh h2 e2
          obtain ⟨a, ys, rfl, t1, t2⟩ := rp_tup (α := α) h1
          cases t2 with
          | cons u1 t2 => cases t2 with
            | cons u2 t2 =>
              cases t2
              have ek := key_ok (α := α) (d := .imm k) u1 (k := l) e1
              subst ek
              exact ⟨a :: as, (l, _) :: kvs, rfl, .cons (t1.up fh).t q1, .cons ⟨rfl, u2⟩ q2⟩
        · cases e
      · cases e
end
def gDictP : DC1 := fun ds S R => match ds with
  | [.imm (.list ps)] => ∃ es, pairsL ps = some es ∧ R (.cell S.μ.length) (S.new (.dic (mergeG [] es)))
  | _ => False
theorem cd_dictP {X : Cx} (hc : X.calm = true) : CallD X (.type "dict") gDictP := ⟨_, call_pairsZ hc, fun B S σ ts H xs ds R Q hl h hd k => by
  match ds, hd with
  | [.imm (.list ps)], hd =>
    match xs, hl with
    | [y], _ =>
      obtain ⟨F, α, h⟩ := h
      have h1 := h.tm (y, .imm (.list ps)) (by simp)
      obtain ⟨es, e, hd⟩ := hd
      cases h1 with
      | lst hF hr =>
        obtain ⟨as, kvs, rfl, q1, q2⟩ := pairs_data (α := α) h.fh hr e
        refine ⟨_, as, kvs, rfl, SqL.of (h.fh _ _ hF), q1, fun p hp => ?_⟩
        exact k _ _ _ _ hd (((h.sub memA).cellNew (o := DicO X.prog X.w p (mergeL [] kvs)) (u := .dic (mergeG [] es)) hp ⟨_, upd_same, paired_up (fun _ _ q => ⟨q.1, q.2.up (Ex.refl _)⟩) (mergeG_ok q2 .nil)⟩).add (d := .cell S.μ.length) ⟨p, by rw [← h.al, List.getElem?_append_right (Nat.le_refl _), Nat.sub_self]; rfl, rfl⟩).ok⟩
section
variable {S : DSt} {R : DV → DSt → Prop}
theorem r_dictP {ps : List PyData} {es : List (Leaf × DV)} (e : pairsL ps = some es) (q : R (.cell S.μ.length) (S.new (.dic (mergeG [] es)))) : gDictP [.imm (.list ps)] S R := ⟨es, e, q⟩
end
end DL

set_option Elab.async false
set_option linter.all false
set_option maxRecDepth 100000
set_option autoImplicit false
set_option maxHeartbeats 2000000
namespace DL
open PySem PySem.Spec L2 PyProof.Rows

/-! ## for k, v in d.items(): the dict is locked while it is walked -/
/-- the entries of a locked dict, each as a new pair -/
def Iti2 (P : Program) (w : World) (a : Addr) (ob : Obj) (kvs : List (Leaf × V)) : It :=
  ⟨fun i H => H a = some (LckO P w ob kvs a) ∧ i < kvs.length, fun i H x H' => ∃ T l v, kvs[i]? = some (l, v) ∧ x = .ref T ∧ H T = none ∧ H' = upd H T (.tup [kvV l, v]), fun i H => H a = some (LckO P w ob kvs a) ∧ kvs.length ≤ i⟩
section
variable {X : Cx} {pins : List (Addr × Obj)} {σ : L2.St} {H : Hp} {s : Shared} {a : Addr} {ob : Obj} {kvs : List (Leaf × V)}
theorem lck_raw2 {h : Heap} {vs : List (Leaf × Value)} (ho : h.get? a = some ob) (r : KV kvs vs) (dd : h.DictOf (cK X.prog X.w) a vs) :
    ∃ es ep, ob.data = .dict es ep ∧ h.DictRaw a es ep ∧ es.size = kvs.length ∧ ∀ i (hi : i < es.size) l v, kvs[i]? = some (l, v) → RelV (kvV l) es[i].key ∧ RelV v es[i].val := by
  obtain ⟨es, ep, hr, hs, hk⟩ := dd.raw
  have hl := Paired.length r
  obtain ⟨o, o1, o2, o3⟩ := id hr
  cases ho.symm.trans o1
  refine ⟨es, ep, o3, hr, by rw [hs, hl], fun i hi l v e => ?_⟩
  obtain ⟨q, q1, q2⟩ := pget i r e
  obtain ⟨l', u⟩ := q
  have e1 : l = l' := q2.1
  subst e1
  obtain ⟨g1, g2⟩ := hk i hi l u q1
  exact ⟨ck_rel g1, by rw [g2]; exact q2.2⟩
/-- the kit's walk of the items (WalksT.rawItems), as a turn over the tracked part -/
theorem turn_itz {P : Program} {w : World} {K : PySem.W.Frag} {elts : List Expr} {kk : Nat} {tpos : Pos} (it : Addr) {es : Array DictEntry} {ep : Nat} (hd : ob.data = .dict es ep) (hne : a ≠ it) :
    Turn P w K (.Tuple elts kk tpos) (Iti2 P w a ob kvs) [it] it (fun i h => ∃ ok ov, IsItemIter h it a i es.size ep ok ov) := by
  refine ⟨List.mem_singleton.mpr rfl, ?_, ?_, ?_, ?_, fun A i s Q E ⟨_, _, hit⟩ q => wpAny_pyIter_itemiter hit q⟩
  · rintro i h ⟨ok, ov, e⟩ b hb
    rw [List.mem_singleton.mp hb]
    exact ⟨_, e, fun v z => nomatch z⟩
  · rintro i h h' ⟨ok, ov, e⟩ kept
    exact ⟨ok, ov, kept it (List.mem_singleton.mpr rfl) _ e⟩
  · rintro X rfl rfl rfl hc i pins s σ H E I free ⟨ok, ov, e⟩ ⟨hH, hi⟩
    obtain ⟨ho, _, _, vs, rel, dd⟩ := lck_of I hH
    obtain ⟨es', ep', q1, q2, q3, q4⟩ := lck_raw2 (X := X) ho rel dd
    cases hd.symm.trans q1
    obtain ⟨⟨l, v⟩, hlv⟩ : ∃ p, kvs[i]? = some p := ⟨kvs[i], List.getElem?_eq_getElem hi⟩
    have hlt : i < es.size := by rw [q3]; exact hi
    obtain ⟨rk, rv⟩ := q4 i hlt l v hlv
    have W := WalksT.rawItems (prog := X.prog) (w := X.w) (A := X.A) (I.ok.hd hc) it a hne es ep
    refine W.item i s _ E hlt ⟨⟨ok, ov, e⟩, q2⟩ fun T vals h1 tk hP hT tupT mid k1 => ⟨_, rfl, W.go elts kk tpos i T _ _ E mid fun h2 st k2 => ?_⟩
    obtain ⟨_, rfl⟩ := hP
    obtain ⟨⟨ok', ov', e'⟩, _⟩ := st
    obtain ⟨oT, gT, cT, nT, dT⟩ := tupT
    have gT2 := k2 T oT (W.apart i T h1 mid) gT
    have lay : ObjOk X.prog X.w (upd H T (.tup [kvV l, v])) h2 T (.tup [kvV l, v]) := ⟨two_fits, _, .cons rk (.cons rv .nil), oT, gT2, cT, nT, dT⟩
    refine ⟨.ref T, _, I.turnedNew (ch := [it]) (t' := tk) (fun b o hb q => k2 b o hb (k1 b o hb q)) free hT lay, rfl, ⟨T, l, v, hlv, rfl, I.hok.fresh hT, rfl⟩, ⟨ok', ov', e'⟩, fun b hb => ?_⟩
    rw [upd_ne fun z => W.apart i T h1 mid (by rw [← z]; exact hb)]
    exact (free b hb).1
  · rintro X rfl rfl rfl hc i pins s σ H E I free ⟨ok, ov, e⟩ ⟨hH, hi⟩
    obtain ⟨ho, _, _, vs, rel, dd⟩ := lck_of I hH
    obtain ⟨es', ep', q1, q2, q3, q4⟩ := lck_raw2 (X := X) ho rel dd
    cases hd.symm.trans q1
    obtain ⟨p0, p1, p2, p3, p4, p5⟩ := free it (List.mem_singleton.mpr rfl)
    exact wpAny_pyNext_items_end_raw (I.ok.hd hc) e q2 (by rw [q3]; exact hi) fun h1 k1 => ⟨rfl, I.turned (t' := s.toks) (fun b o hb q => k1 b o hb q) p0 p1 p3 p4 p5⟩
def iItemsZ (P : Program) (w : World) (te : TE) : TI := fun σ H R => te σ H fun x H1 => ∃ a kvs, x = .ref a ∧ H1 a = some (DicO P w a kvs) ∧ ∀ ob, R (Iti2 P w a ob kvs) (upd H1 a (LckO P w ob kvs a))
theorem pi_itz {elts : List Expr} {kk : Nat} {tpos apos cpos : Pos} {e : Expr} {te : TE} (he : PE X e te) (hbase : attributeBase e "items" X.env (eval e X.env) = eval e X.env := by rfl) (hline : (apos.endLine == cpos.line) = true := by rfl) :
    PI X (.Tuple elts kk tpos) (.Call (.Attribute e "items" apos) [] [] cpos) (iItemsZ X.prog X.w te) := ⟨fun pins s σ H R I h => by
  refine wpAny_Call_method (T := "dict") (id := "dict.items") hbase rfl hline PySem.F.plainAttrs_dict PySem.F.slot_dict_items PySem.F.type_dict_items (thn (he.run pins s σ H _ I h) fun u s1 hx => ?_)
  obtain ⟨x, H1, I1, rx, d, kvs, rfl, hH, q⟩ := hx
  cases (show u = Value.ref d from rx)
  obtain ⟨z, hne, vs, rel, dd⟩ := dz_of I1 hH
  have he' : ∃ o, s1.heap.get? d = some o := let ⟨o, _, _, ho, _⟩ := dd; ⟨o, ho⟩
  obtain ⟨ob, ho⟩ := he'
  obtain ⟨es, ep, q1, q2, q3, q4⟩ := lck_raw2 (X := X) ho rel dd
  have I2 : Inv X pins σ (upd H1 d (LckO X.prog X.w ob kvs d)) { s1 with heap := s1.heap, toks := s1.toks } :=
    I1.write (x := d) (e := d) (by rw [hH]; exact True.intro) (.inl rfl) (fun _ _ _ q => q) ⟨ob, ho⟩ (lck_ok ho z hne rel dd)
  have hdl : d < s1.heap.objs.size := Heap.lt_size ho
  let view : Obj := { cls := .type "dict_items", data := .fields #[.ref d] }
  have I3 : Inv X pins σ (upd H1 d (LckO X.prog X.w ob kvs d)) { s1 with heap := s1.heap.push view } := I2.kept (t' := s1.toks) fun b o e => Heap.get?_push_of_some _ e
  have fin : wpAny (model X.prog X.w) X.A (pyIter (.ref s1.heap.objs.size)) (PIE X pins σ (.Tuple elts kk tpos) R) X.xe { s1 with heap := s1.heap.push view } := by
    refine wpAny_pyIter_items_raw (v := s1.heap.objs.size) (d := d) ⟨_, Heap.get?_push_size _ rfl, rfl, rfl⟩ (q2.push _) (pi_one (tk := s1.toks) I3 _ (turn_itz _ q1 ?_) ⟨.none, .none, Heap.get?_push_size _ rfl⟩ (q ob))
    exact Nat.ne_of_lt (Nat.lt_of_lt_of_le hdl (by rw [Heap.size_push]; exact Nat.le_succ _))
  refine ⟨dd.typeIs, dd.mapOf.noDict, ?_⟩
  show wpAny _ _ (callWith cpos (.builtin "dict.items") [.ref d] [] []) _ X.xe s1
  exact method_meetsIn PySem.F.slot_dict_items PySem.F.entry_dict_items rfl (PySem.evalArgs_none ⟨rfl, dd.typeIs, PySem.F.args_dict_items_1 _, _, meets_dict_items_raw d hne, ⟨⟨es, ep, q2⟩, fin⟩⟩)⟩
end
/-! ### over data -/
def diItems (P : Program) (w : World) (de : DTE) : DTI := fun S R => de S fun d S1 => ∃ k es, d = .cell k ∧ S1.cell k = some (.dic es) ∧
  ∀ ob fs, R (es.map fun p => DY.two (.imm (kvD p.1)) p.2) (fun S' => S'.cell k = some (.ho (LckO P w ob fs))) (S1.put k (.ho (LckO P w ob fs)))
section
variable {P : Program} {w : World} {K : PySem.W.Frag} {B : Bs} {S S' : DSt} {σ : L2.St} {ts : List (V × DV)} {H F : Hp} {α : List Addr} {v : V} {d : DV}
theorem mem_dc {fs : List (Leaf × V)} {es : List (Leaf × DV)} : ∀ {i : Nat} {l l' : Leaf} {u : V} {d : DV}, fs[i]? = some (l, u) → es[i]? = some (l', d) → (u, d) ∈ DcL fs es := by
  intro i
  unfold DcL
  induction fs generalizing es i with
  | nil => intro l l' u d h; simp at h
  | cons p fs ih =>
    intro l l' u d h1 h2
    cases es with
    | nil => simp at h2
    | cons q es =>
      cases i with
      | zero =>
        cases (show p = (l, u) from Option.some.inj h1)
        cases (show q = (l', d) from Option.some.inj h2)
        exact List.mem_cons_self
      | succ i => exact List.mem_cons_of_mem _ (ih (by simpa using h1) (by simpa using h2))
theorem snd_items {te : TE} {de : DTE} (he : SndE P w K te de) : SndI P w K (iItemsZ P w te) (diItems P w de) := fun B S σ ts H R Q h hd kk =>
  he B S σ ts H _ _ h hd fun x dx S1 H1 q o => by
    obtain ⟨k, es, rfl, e1, q⟩ := q
    obtain ⟨F, α, o⟩ := o
    obtain ⟨a, c1, rfl⟩ := o.top
    obtain ⟨a', g1, g2, xs, g3, g4⟩ := o.ce k _ (cell_get e1)
    cases c1.symm.trans g1
    refine ⟨a, xs, rfl, g3, fun ob => ?_⟩
    have hlen : xs.length = es.length := Paired.length g4
    have o2 := o.cellPut (o := LckO P w ob xs a) (u := .ho (LckO P w ob xs)) g1 g2 upd_same
    have o3 : StAt P w K B (S1.put k (.ho (LckO P w ob xs))) σ (((.ref a, .cell k) :: DcL xs es) ++ ts) (upd H1 a (LckO P w ob xs a)) F α := by
      refine { o2 with tm := fun z hz => ?_ }
      rcases List.mem_append.mp hz with hz | hz
      · rcases List.mem_cons.mp hz with rfl | hz
        · exact o2.tm _ List.mem_cons_self
        · exact mem_dcL g4 z hz
      · exact o2.tm z (List.mem_cons_of_mem _ hz)
    have same : ∀ (B2 : Bs) (S2 : DSt) (σ2 : L2.St) (H2 : Hp) (vs : List (V × DV)), (V.ref a, DV.cell k) ∈ vs → S2.cell k = some (.ho (LckO P w ob xs)) → StOk P w K B2 S2 σ2 vs H2 → H2 a = some (LckO P w ob xs a) := fun B2 S2 σ2 H2 vs hm hs ⟨F2, α2, z⟩ => by
      obtain ⟨b, b1, b2⟩ := z.tm _ hm
      cases b2
      obtain ⟨b', b1', b2', b3⟩ := z.ce k _ (cell_get hs)
      cases b1.symm.trans b1'
      exact b3
    refine kk _ _ _ _ (Iti2 P w a ob xs) (fun H2 => H2 a = some (LckO P w ob xs a)) (fun i H2 v H3 => ∃ T l u, xs[i]? = some (l, u) ∧ v = .ref T ∧ H2 T = none ∧ H3 = upd H2 T (.tup [kvV l, u])) ((.ref a, .cell k) :: DcL xs es) (q ob xs) o3.ok ?_ ?_ ?_
    · exact ⟨fun i H2 hi hG => ⟨hG, by rw [List.length_map] at hi; omega⟩, fun H2 hG => ⟨hG, by rw [List.length_map]; omega⟩, fun i H2 v H3 hi _ y => y⟩
    · exact fun B2 S2 σ2 H2 vs hv hs o2 => same B2 S2 σ2 H2 vs (hv _ (by simp)) hs o2
    · rintro B2 i S2 σ2 H2 v H3 vs hi hv hs ⟨F2, α2, z⟩ ⟨T, l, u, hlu, rfl, hT, rfl⟩
      obtain ⟨⟨l', d⟩, hd, hkv⟩ := pget i g4 hlu
      have el : l = l' := hkv.1
      subst el
      have hFT := z.freeF hT
      have hαT : T ∉ α2 := fun y => z.an T y hT
      have hud := z.tm (u, d) (hv _ (List.mem_cons_of_mem _ (mem_dc hlu hd)))
      exact ⟨.two (.imm (kvD l)) d, by rw [List.getElem?_map, hd]; rfl, F2, α2, z.free hαT hFT (z.freshB hT), T, kvV l, u, rfl, upd_same, kvD_rp (α := α2) l, hud⟩
theorem di_items {X : Cx} {e : Expr} {de : DTE} {elts : List Expr} {kk : Nat} {tpos apos cpos : Pos} (he : DE X e de) (hbase : attributeBase e "items" X.env (eval e X.env) = eval e X.env := by rfl) (hline : (apos.endLine == cpos.line) = true := by rfl) :
    DI X (.Tuple elts kk tpos) (.Call (.Attribute e "items" apos) [] [] cpos) (diItems X.prog X.w de) := by
  obtain ⟨t, a1, a2⟩ := he.ex
  exact ⟨_, pi_itz a1 hbase hline, snd_items a2⟩
end
section
variable {P : Program} {w : World} {S : DSt} {de : DTE} {RI : List DY → (DSt → Prop) → DSt → Prop} {k : Nat} {es : List (Leaf × DV)}
def kItems (P : Program) (w : World) (RI : List DY → (DSt → Prop) → DSt → Prop) : DV → DSt → Prop := fun d S1 => ∃ k es, d = .cell k ∧ S1.cell k = some (.dic es) ∧
  ∀ ob fs, RI (es.map fun p => DY.two (.imm (kvD p.1)) p.2) (fun S' => S'.cell k = some (.ho (LckO P w ob fs))) (S1.put k (.ho (LckO P w ob fs)))
theorem r_iItems (h : de S (kItems P w RI)) : diItems P w de S RI := h
theorem r_kItems (e : S.cell k = some (.dic es)) (q : ∀ ob fs, RI (es.map fun p => DY.two (.imm (kvD p.1)) p.2) (fun S' => S'.cell k = some (.ho (LckO P w ob fs))) (S.put k (.ho (LckO P w ob fs)))) : kItems P w RI (.cell k) S := ⟨k, es, rfl, e, q⟩
end
/-! ## d != e for equal dicts -/
def rDEq (P : Program) (w : World) (res : Bool) : R2 := fun x y H Q => ∃ a b ks ls, x = .ref a ∧ y = .ref b ∧ H a = some (DicO P w a ks) ∧ H b = some (DicO P w b ls) ∧ ks.length = ls.length ∧ (∀ p ∈ ks, valV ls p.1 = some p.2 ∧ flatB p.2 = true) ∧ Q (.bl res) H
theorem hitsZ {A : Around} {s : Shared} {ls : List (Leaf × V)} {vb : List (Leaf × Value)} (rb : KV ls vb) {ks : List (Leaf × V)} {va : List (Leaf × Value)} (ra : KV ks va) : (∀ p ∈ ks, valV ls p.1 = some p.2 ∧ flatB p.2 = true) → PySem.W.KeqHits A s vb va true := by
  unfold KV at ra
  induction ra with
  | nil => exact fun _ => .nil
  | @cons p q ps qs h _ ih =>
    intro hp
    obtain ⟨h1, h2⟩ := h
    obtain ⟨e, f⟩ := hp p List.mem_cons_self
    obtain ⟨y, hy, ry⟩ := RelO.some_of (v := p.2) (o := valueAt vb p.1) (by rw [← e]; exact rb.val p.1)
    obtain ⟨key, v⟩ := q
    have h1 : p.1 = key := h1
    rw [h1] at hy
    show PySem.W.KeqHits A s vb ((key, v) :: qs) (true && true)
    exact .hit hy (eqAt_same h2 ry f) (ih fun p' hm => hp p' (List.mem_cons_of_mem _ hm))
section
variable {X : Cx}
theorem op_neZ (hu : X.A.units < cLine) : OpR X (compareOp .NotEq) (rDEq X.prog X.w false) := by
  intro pins s σ H x y v u Q I rx ry h
  obtain ⟨a, b, ks, ls, rfl, rfl, ha, hb, hl, hp, q⟩ := h
  cases (show v = Value.ref a from rx)
  cases (show u = Value.ref b from ry)
  obtain ⟨_, na, va, ra, da⟩ := dz_of I ha
  obtain ⟨_, nb, vb, rb, db⟩ := dz_of I hb
  refine PySem.W.keq_ne (knd := cK X.prog X.w) (r := true) na nb da db hu (fun _ => hitsZ rb ra hp) ?_
  have e : va.length = vb.length := by rw [← Paired.length ra, ← Paired.length rb]; exact hl
  rw [show (!(va.length == vb.length && true)) = false by rw [e]; simp]
  exact ⟨.bl false, H, I, rfl, q⟩
end
def gNeD : D2 := fun x y S R => ∃ es fs, S.dict x = some es ∧ S.dict y = some fs ∧ es.length = fs.length ∧ (∀ p ∈ es, ∃ q v, p.2 = .imm q ∧ flV q = some v ∧ valG fs p.1 = some (.imm q)) ∧ R (dB false) S
theorem flV_flat {q : PyData} {v : V} (e : flV q = some v) : flatB v = true := by cases q <;> first | (cases e; rfl) | cases e
theorem snd_neZ {P : Program} {w : World} {K : PySem.W.Frag} : SndR P w K (rDEq P w false) gNeD := fun B S σ ts H x y dx dy R Q h hd k => by
  obtain ⟨es, fs, e1, e2, hl, hp, q⟩ := hd
  obtain ⟨F, α, h⟩ := h
  obtain ⟨a, ks, rfl, hH, p1⟩ := h.dict h.top2 e1
  obtain ⟨b, ls, rfl, hH2, p2⟩ := h.dict h.top e2
  refine ⟨a, b, ks, ls, rfl, rfl, hH, hH2, by rw [Paired.length p1, Paired.length p2]; exact hl, fun p hm => ?_, k _ _ S H q ((h.sub mem2).add vbl).ok⟩
  obtain ⟨i, hi⟩ := List.getElem?_of_mem hm
  obtain ⟨⟨l, d⟩, g1, g2, g3⟩ := pget i p1 hi
  obtain ⟨z, v, rfl, f1, f2⟩ := hp (l, d) (List.mem_of_getElem? g1)
  have g2 : p.1 = l := g2
  obtain ⟨v', w1, w2⟩ := valG_ok p2 f2
  have x1 := flV_ok f1 g3
  have x2 := flV_ok f1 w2
  rw [g2, x1]
  exact ⟨by rw [← x2]; exact w1, flV_flat f1⟩
theorem od_neZ {X : Cx} (hu : X.A.units < cLine) : OpD X (compareOp .NotEq) gNeD := ⟨_, op_neZ hu, snd_neZ⟩
theorem r_neD {S : DSt} {R : DV → DSt → Prop} {x y : DV} {es fs : List (Leaf × DV)} (e1 : S.dict x = some es) (e2 : S.dict y = some fs) (hl : es.length = fs.length) (hp : ∀ p ∈ es, ∃ q v, p.2 = .imm q ∧ flV q = some v ∧ valG fs p.1 = some (.imm q)) (q : R (dB false) S) : gNeD x y S R := ⟨es, fs, e1, e2, hl, hp, q⟩
end DL

set_option Elab.async false
set_option linter.all false
set_option maxRecDepth 100000
set_option autoImplicit false
set_option maxHeartbeats 2000000
namespace DL
open PySem PySem.Spec L2 PyProof.Rows

theorem od_neXD {X : Cx} (hu : X.A.units + 64 < cLine) : OpD X (compareOp .NotEq) (gOr gNeX gNeD) := by
  obtain ⟨r, a1, a2⟩ := (od_neX (X := X) hu).ex
  obtain ⟨r', b1, b2⟩ := (od_neZ (X := X) (by omega)).ex
  exact ⟨_, .or a1 b1, snd_rOr a2 b2⟩
/-! ## d.get(k, x) -/
def tGetZ (P : Program) (w : World) (td ty tx : TE) : TE := fun σ H Q => td σ H fun x H1 => ∃ a, x = .ref a ∧ (∃ kvs, H1 a = some (DicO P w a kvs)) ∧
  ty σ H1 fun y H2 => tx σ H2 fun z H3 => ∃ kvs k, H3 a = some (DicO P w a kvs) ∧ y = kvV k ∧ Q ((valV kvs k).getD z) H3
section
variable {X : Cx} {o e f : Expr} {apos cpos : Pos} {td ty tx : TE} {do' dy dx : DTE}
theorem pe_getZ (ho : PE X o td) (he : PE X e ty) (hf : PE X f tx) (m : M2 X o "get" apos e f cpos) : PE X (.Call (.Attribute o "get" apos) [e, f] [] cpos) (tGetZ X.prog X.w td ty tx) := ⟨fun pins s σ H Q I h => by
  refine wpAny_Call_method m.base m.few m.line PySem.F.plainAttrs_dict PySem.F.slot_dict_get PySem.F.type_dict_get (thn (ho.run pins s σ H _ I h) fun u s1 hu => ?_)
  obtain ⟨x, H1, I1, rx, a, rfl, ⟨kvs0, hH0⟩, q1⟩ := hu
  cases (show u = Value.ref a from rx)
  obtain ⟨_, _, _, _, d0⟩ := dz_of I1 hH0
  refine ⟨d0.typeIs, d0.mapOf.noDict, ?_⟩
  rw [m.trees]
  refine Calls.callWith_builtin rfl (Calls.evalArgs_plain (Calls.spliced_cons (thn (he.run pins s1 σ H1 _ I1 q1) fun iv s2 ⟨y, H2, I2, ry, q2⟩ =>
    Calls.spliced_cons (thn (hf.run pins s2 σ H2 _ I2 q2) fun fv s3 hf3 => Calls.spliced_nil ?_))))
  obtain ⟨z, H3, I3, rz, kvs, k, hH, rfl, q⟩ := hf3
  obtain ⟨_, hd, vs, rel, dd⟩ := dz_of I3 hH
  refine call_meetsIn PySem.F.slot_dict_get dd.typeIs PySem.F.entry_dict_get (PySem.F.args_dict_get_3 _ _ _) (meets_dict_get_default (cK X.prog X.w) a (ck_of ry) hd fv) ⟨_, dd.mapOf, ?_⟩
  exact ⟨_, H3, I3.tok _, (rel.val k).getD rz, q⟩⟩
def kGetZ (dy dx : DTE) (R : DV → DSt → Prop) : DV → DSt → Prop := fun o S1 => match o with
  | .cell j => (∃ es, S1.cell j = some (.dic es)) ∧ dy S1 fun y S2 => dx S2 fun z S3 => ∃ es l, S3.cell j = some (.dic es) ∧ keyOf y = some l ∧ R ((valG es l).getD z) S3
  | _ => False
def dGetZ (do' dy dx : DTE) : DTE := fun S R => do' S (kGetZ dy dx R)
theorem valG_none {P : Program} {w : World} {K : PySem.W.Frag} {F : Hp} {α : List Addr} {kvs : List (Leaf × V)} {es : List (Leaf × DV)} (h : Paired (KVOk P w K F α) kvs es) {k : Leaf} (e : valG es k = none) : valV kvs k = none := by
  have := valG_some h k
  rw [e] at this
  cases q : valV kvs k with
  | none => rfl
  | some v => rw [q] at this; cases this
theorem de_getZ (ho : DE X o do') (he : DE X e dy) (hf : DE X f dx) (m : M2 X o "get" apos e f cpos) : DE X (.Call (.Attribute o "get" apos) [e, f] [] cpos) (dGetZ do' dy dx) := by
  obtain ⟨t, a1, a2⟩ := ho.ex
  obtain ⟨ty, b1, b2⟩ := he.ex
  obtain ⟨tx, c1, c2⟩ := hf.ex
  refine ⟨_, pe_getZ a1 b1 c1 m, fun B S σ ts H R Q h hd kk => a2 B S σ ts H _ _ h hd fun x d S1 H1 q o1 => ?_⟩
  unfold kGetZ at q
  split at q
  · rename_i j
    obtain ⟨⟨es0, e0⟩, q⟩ := q
    obtain ⟨F1, α1, o1⟩ := o1
    obtain ⟨a, c1', rfl⟩ := o1.top
    obtain ⟨a', g1, g2, xs0, g3, g4⟩ := o1.ce j _ (cell_get e0)
    cases c1'.symm.trans g1
    refine ⟨a, rfl, ⟨xs0, g3⟩, b2 B S1 σ _ H1 _ _ o1.ok q fun y dy' S2 H2 q2 o2 => c2 B S2 σ _ H2 _ _ o2 q2 fun z dz S3 H3 q3 o3 => ?_⟩
    obtain ⟨es, l, e3, ek, q3⟩ := q3
    obtain ⟨F3, α3, o3⟩ := o3
    obtain ⟨b, b1', b2'⟩ := o3.tm (.ref a, .cell j) (by simp)
    cases b2'
    obtain ⟨b', n1, n2, xs, n3, n4⟩ := o3.ce j _ (cell_get e3)
    cases b1'.symm.trans n1
    have hy := o3.tm (y, dy') (by simp)
    have hz := o3.tm (z, dz) (by simp)
    refine ⟨xs, l, n3, key_ok hy ek, kk _ _ S3 H3 q3 ?_⟩
    cases ev : valG es l with
    | none =>
      rw [valG_none n4 ev]
      exact ((o3.sub fun p hp => by simp [hp]).add hz).ok
    | some d' =>
      obtain ⟨v, w1, w2⟩ := valG_ok n4 ev
      rw [w1]
      exact ((o3.sub fun p hp => by simp [hp]).add w2).ok
  · exact q.elim
end
section
variable {S : DSt} {R : DV → DSt → Prop} {do' dy dx : DTE} {j : Nat} {es : List (Leaf × DV)} {l : Leaf} {y z : DV}
theorem r_getZ (h : do' S (kGetZ dy dx R)) : dGetZ do' dy dx S R := h
theorem r_kGetZ (e : S.cell j = some (.dic es)) (h : dy S fun y S2 => dx S2 fun z S3 => ∃ es l, S3.cell j = some (.dic es) ∧ keyOf y = some l ∧ R ((valG es l).getD z) S3) : kGetZ dy dx R (.cell j) S := ⟨⟨es, e⟩, h⟩
theorem r_neXP {x y : DV} (q : gNeX x y S R) : gOr gNeX gNeD x y S R := .inl q
theorem r_neXD {x y : DV} {es fs : List (Leaf × DV)} (e1 : S.dict x = some es) (e2 : S.dict y = some fs) (hl : es.length = fs.length) (hp : ∀ p ∈ es, ∃ q v, p.2 = .imm q ∧ flV q = some v ∧ valG fs p.1 = some (.imm q)) (q : R (dB false) S) : gOr gNeX gNeD x y S R := .inr ⟨es, fs, e1, e2, hl, hp, q⟩
end
end DL

set_option Elab.async false
set_option linter.all false
set_option maxRecDepth 100000
set_option autoImplicit false
set_option maxHeartbeats 2000000
namespace DL
open PySem PySem.Spec L2 PyProof.Rows

/-! ## len(set(xs)), xs a list of tuples of ints -/
def tLenSetT (K : PySem.W.Frag) (te : TE) : TE := fun σ H Q => te σ H fun x H1 => ∃ (l : Addr) (ks : List (Addr × List Int)), x = .ref l ∧ SqL K H1 l (ks.map fun p => V.ref p.1) ∧ (∀ p ∈ ks, SqT K H1 p.1 (p.2.map V.int)) ∧ ks.length < 64 ∧
  ∀ L : List (List Int), L.Nodup → (∀ r, r ∈ L ↔ r ∈ ks.map (·.2)) → Q (.int L.length) H1
section
variable {X : Cx} {a : Expr} {te : TE} {de : DTE} {p p2 q pos : Pos}
theorem pe_lenSetT (hc : X.calm = true) (hu : X.A.units + 64 < cLine) (hg : Gl X "len") (hm : X.mg "len" = none) (hg2 : Gl X "set") (hm2 : X.mg "set" = none) (ha : PE X a te)
    (na : starEach [a] X.env = (false, eval a X.env) :: starEach [] X.env := by rfl) : PE X (.Call (.Name "len" p) [.Call (.Name "set" p2) [a] [] q] [] pos) (tLenSetT X.K te) := ⟨fun pins s σ H Q I h => by
  refine Call_ (ld_blt I hg hm PySem.boot_len (PyProof.Rows.callWith_builtin1 (PyProof.Rows.args_cons ?_ rfl) rfl rfl))
  refine Call_ (ld_blt I hg2 hm2 PyProof.Rows.boot_set (PyProof.Rows.callWith_type1 (PyProof.Rows.args_cons (thn (ha.run pins s σ H _ I h) fun v s1 hv => PyProof.Rows.args_nil ?_) na) na rfl))
  obtain ⟨x, H1, I1, r1, l, ks, rfl, hl, hk, hf, q1⟩ := hv
  cases (show v = Value.ref l from r1)
  obtain ⟨its, rv, pl, _⟩ := I1.list hl
  refine call_set_tups (P := X.prog) (w := X.w) ks (I1.ok.hd hc) pl.isList (by simpa using refs_of_vals rv) (fun p hp => I1.isT (hk p hp)) hf (by omega) fun h' tk L es ep t R g keep => PyProof.Rows.args_nil ?_
  obtain ⟨o, ho, hex, hd⟩ := R.ob
  have few := R.few
  have hsz := SetTR.size (s := { s1 with heap := h', toks := tk }) R
  have hfit := SetTR.fits (s := { s1 with heap := h', toks := tk }) R
  refine call_len_set ho hex hd hfit (by rw [hsz]; omega) ⟨.int (L.map (·.2)).length, H1, ?_, ⟨_, by rw [hsz, List.length_map]⟩, q1 _ R.nd fun r => ⟨fun z => ?_, fun z => ?_⟩⟩
  · exact (I1.kept (t' := tk) keep).tok _
  · obtain ⟨p, hp, rfl⟩ := List.mem_map.mp z
    exact List.mem_map.mpr ⟨p, List.mem_of_mem_take (g.sub p hp), rfl⟩
  · obtain ⟨p, hp, rfl⟩ := List.mem_map.mp z
    exact g.all p (by rw [List.take_length]; exact hp)⟩
def kLenSetT (R : DV → DSt → Prop) : DV → DSt → Prop := fun d S1 => ∃ rows : List (List Int), S1.seq d = some (true, rows.map fun r => DV.imm (.tuple (r.map PyData.int))) ∧ rows.length < 64 ∧
  ∀ L : List (List Int), L.Nodup → (∀ r, r ∈ L ↔ r ∈ rows) → R (dI L.length) S1
def dLenSetT (de : DTE) : DTE := fun S R => de S (kLenSetT R)
theorem rp_row {P : Program} {w : World} {K : PySem.W.Frag} {F : Hp} : ∀ {r : List Int} {ys : List V}, RpAll P w K F ys (r.map PyData.int) → ys = r.map V.int
  | [], _, .nil => rfl
  | x :: r, _, .cons h t => by
    cases h
    rw [rp_row t]
    rfl
theorem rows_ks {P : Program} {w : World} {K : PySem.W.Frag} {F H : Hp} {α : List Addr} (fh : ∀ b o, F b = some o → H b = some o) : ∀ {rows : List (List Int)} {xs : List V}, Paired (VOk P w K F α) xs (rows.map fun r => DV.imm (.tuple (r.map PyData.int))) →
    ∃ ks : List (Addr × List Int), xs = ks.map (fun p => V.ref p.1) ∧ ks.map (·.2) = rows ∧ ∀ p ∈ ks, SqT K H p.1 (p.2.map V.int)
  | [], _, .nil => ⟨[], rfl, rfl, fun _ z => nomatch z⟩
  | r :: rows, _, .cons h t => by
    obtain ⟨ks, rfl, e2, e3⟩ := rows_ks fh t
    obtain ⟨b, ys, rfl, t1, t2⟩ := rp_tup (α := α) h
    rw [rp_row t2] at t1
    refine ⟨(b, r) :: ks, rfl, by rw [List.map_cons, e2], fun p hp => ?_⟩
    rcases List.mem_cons.mp hp with rfl | hp
    · exact (t1.up fh).t
    · exact e3 p hp
theorem de_lenSetT (hc : X.calm = true) (hu : X.A.units + 64 < cLine) (hg : Gl X "len") (hm : X.mg "len" = none) (hg2 : Gl X "set") (hm2 : X.mg "set" = none) (ha : DE X a de)
    (na : starEach [a] X.env = (false, eval a X.env) :: starEach [] X.env := by rfl) : DE X (.Call (.Name "len" p) [.Call (.Name "set" p2) [a] [] q] [] pos) (dLenSetT de) := by
  obtain ⟨t, a1, a2⟩ := ha.ex
  refine ⟨_, pe_lenSetT hc hu hg hm hg2 hm2 a1 na, fun B S σ ts H R Q o hd kk => a2 B S σ ts H _ _ o hd fun x dx S1 H1 q1 o1 => ?_⟩
  obtain ⟨rows, e, hlen, q1⟩ := q1
  obtain ⟨F, α, o1⟩ := o1
  obtain ⟨l, xs, rfl, hq, hp⟩ := o1.seq o1.top e
  obtain ⟨ks, rfl, e2, e3⟩ := rows_ks o1.fh hp
  refine ⟨l, ks, rfl, hq, e3, by rw [← e2, List.length_map] at hlen; exact hlen, fun L h1 h2 => kk _ _ S1 H1 (q1 L h1 fun r => by rw [h2, e2]) ((o1.sub mem1).add vint).ok⟩
theorem r_lenSetT {S : DSt} {R : DV → DSt → Prop} (h : de S (kLenSetT R)) : dLenSetT de S R := h
theorem r_kLenSetT {S : DSt} {R : DV → DSt → Prop} {d : DV} {rows : List (List Int)} (e : S.seq d = some (true, rows.map fun r => DV.imm (.tuple (r.map PyData.int)))) (hl : rows.length < 64) (k : ∀ L : List (List Int), L.Nodup → (∀ r, r ∈ L ↔ r ∈ rows) → R (dI L.length) S) : kLenSetT R d S := ⟨rows, e, hl, k⟩
end
end DL

set_option Elab.async false
set_option linter.all false
set_option maxRecDepth 100000
set_option autoImplicit false
set_option maxHeartbeats 2000000
namespace DL
open PySem PySem.Spec L2 PyProof.Rows

/-! ## walks of a dict whose values are anything: the cell keeps its entries while it is locked -/
theorem PI.or' {X : Cx} {tg e : Expr} {t t' : TI} (h : PI X tg e t) (h' : PI X tg e t') : PI X tg e (fun σ H R => t σ H R ∨ t' σ H R) := ⟨fun pins s σ H R I q => by
  rcases q with q | q
  · exact h.run pins s σ H R I q
  · exact h'.run pins s σ H R I q⟩
/-- the dict at a is the object ob, its keys are ls -/
def LckK (P : Program) (w : World) (a : Addr) (ob : Obj) (ls : List Leaf) (H : Hp) : Prop := ∃ ys : List (Leaf × V), H a = some (LckO P w ob ys a) ∧ ys.map (·.1) = ls
/-- its keys, one by one -/
def ItK (P : Program) (w : World) (a : Addr) (ob : Obj) (ls : List Leaf) : It :=
  ⟨fun i H => LckK P w a ob ls H ∧ i < ls.length, fun i H x H' => H' = H ∧ ∃ l, ls[i]? = some l ∧ x = kvV l, fun i H => LckK P w a ob ls H ∧ ls.length ≤ i⟩
theorem turn_K {P : Program} {w : World} {K : PySem.W.Frag} {tg : Expr} {a : Addr} {ob : Obj} {ls : List Leaf} (it : Addr) {es : Array DictEntry} {ep : Nat} (hd : ob.data = .dict es ep) : Turn P w K tg (ItK P w a ob ls) [it] it (fun i h => h.IsKeyIter it a i es.size ep) where
  mem := (turn_z (P := P) (w := w) (K := K) (tg := tg) (a := a) (kvs := []) it hd).mem
  obj := (turn_z (P := P) (w := w) (K := K) (tg := tg) (a := a) (kvs := []) it hd).obj
  keep := (turn_z (P := P) (w := w) (K := K) (tg := tg) (a := a) (kvs := []) it hd).keep
  item := fun X e1 e2 e3 hc i pins s σ H E I hf st ⟨⟨ys, hH, hy⟩, hi⟩ => by
    have hl : ys.length = ls.length := by rw [← hy, List.length_map]
    refine thnF ((turn_z (P := P) (w := w) (K := K) (tg := tg) (kvs := ys) it hd).item X e1 e2 e3 hc i pins s σ H (fun _ _ => False) I hf st ⟨hH, by rw [hl]; exact hi⟩) fun r s1 ⟨u, er, h2⟩ => ⟨u, er, thnF h2 fun _ s2 hx => ?_⟩
    obtain ⟨x, H', I', rx, ⟨rfl, l, v, g1, g2⟩, rest⟩ := hx
    exact ⟨x, H', I', rx, ⟨rfl, l, by rw [← hy, List.getElem?_map, g1]; rfl, g2⟩, rest⟩
  done := fun X e1 e2 e3 hc i pins s σ H E I hf st ⟨⟨ys, hH, hy⟩, hi⟩ =>
    (turn_z (P := P) (w := w) (K := K) (tg := tg) (kvs := ys) it hd).done X e1 e2 e3 hc i pins s σ H E I hf st ⟨hH, by rw [← hy, List.length_map] at hi; exact hi⟩
  self := (turn_z (P := P) (w := w) (K := K) (tg := tg) (a := a) (kvs := []) it hd).self
def iLckK (P : Program) (w : World) (te : TE) : TI := fun σ H R => te σ H fun x H1 => ∃ a kvs, x = .ref a ∧
  ((H1 a = some (DicO P w a kvs) ∧ ∀ ob, R (ItK P w a ob (kvs.map (·.1))) (upd H1 a (LckO P w ob kvs a))) ∨ ∃ ob, H1 a = some (LckO P w ob kvs a) ∧ R (ItK P w a ob (kvs.map (·.1))) H1)
theorem pi_lckK {X : Cx} {tg e : Expr} {te : TE} (he : PE X e te) : PI X tg e (iLckK X.prog X.w te) := by
  refine ⟨fun pins s σ H R I h => thn (he.run pins s σ H _ I h) fun u s1 hx => ?_⟩
  obtain ⟨x, H1, I1, rx, d, kvs, rfl, hq⟩ := hx
  cases (show u = Value.ref d from rx)
  rcases hq with ⟨hH, q⟩ | ⟨ob, hH, q⟩
  · obtain ⟨z, hne, vs, rel, dd⟩ := dz_of I1 hH
    obtain ⟨ob, ho⟩ : ∃ o, s1.heap.get? d = some o := let ⟨o, _, _, ho, _⟩ := dd; ⟨o, ho⟩
    obtain ⟨es, ep, q1, q2, q3, q4⟩ := lck_raw (X := X) ho rel dd
    have I2 : Inv X pins σ (upd H1 d (LckO X.prog X.w ob kvs d)) { s1 with heap := s1.heap, toks := s1.toks } :=
      I1.write (x := d) (e := d) (by rw [hH]; exact True.intro) (.inl rfl) (fun _ _ _ q => q) ⟨ob, ho⟩ (lck_ok ho z hne rel dd)
    exact wpAny_pyIter_dict_raw hne q2 (pi_one (tk := s1.toks) I2 _ (turn_K _ q1) ⟨_, Heap.get?_push_size _ rfl, rfl, rfl⟩ (q ob))
  · obtain ⟨ho, z, hne, vs, rel, dd⟩ := lck_of I1 hH
    obtain ⟨es, ep, q1, q2, q3, q4⟩ := lck_raw (X := X) ho rel dd
    exact wpAny_pyIter_dict_raw hne q2 (pi_one (tk := s1.toks) I1 _ (turn_K _ q1) ⟨_, Heap.get?_push_size _ rfl, rfl, rfl⟩ q)
/-- over data: the cell k is locked from now on -/
def kLck (R : List DY → (DSt → Prop) → DSt → Prop) : DV → DSt → Prop := fun d S1 => ∃ k es, d = .cell k ∧
  ((S1.cell k = some (.dic es) ∧ ∀ ob, R (es.map fun p => DY.one (.imm (kvD p.1))) (fun S' => S'.cell k = some (.lck ob es)) (S1.put k (.lck ob es))) ∨
   (∃ ob, S1.cell k = some (.lck ob es) ∧ R (es.map fun p => DY.one (.imm (kvD p.1))) (fun S' => S'.cell k = some (.lck ob es)) S1))
def diLck (de : DTE) : DTI := fun S R => de S (kLck R)
section
variable {P : Program} {w : World} {K : PySem.W.Frag} {B : Bs} {S S' : DSt} {σ : L2.St} {ts : List (V × DV)} {H F : Hp} {α : List Addr} {v : V} {d : DV}
/-- a locked cell: its address and its entries -/
theorem StAt.cellK {k : Nat} {ob : Obj} {es : List (Leaf × DV)} (h : StAt P w K B S σ ts H F α) (hv : VOk P w K F α v (.cell k)) (e : S.cell k = some (.lck ob es)) : ∃ a ks, v = .ref a ∧ α[k]? = some a ∧ F a = none ∧ H a = some (LckO P w ob ks a) ∧ Paired (KVOk P w K F α) ks es := by
  obtain ⟨a, h1, rfl⟩ := hv
  obtain ⟨a', g1, g2, xs, g3, g4⟩ := h.ce k _ (cell_get e)
  cases h1.symm.trans g1
  exact ⟨a, xs, rfl, h1, g2, g3, g4⟩
theorem StAt.cellD {k : Nat} {es : List (Leaf × DV)} (h : StAt P w K B S σ ts H F α) (hv : VOk P w K F α v (.cell k)) (e : S.cell k = some (.dic es)) : ∃ a ks, v = .ref a ∧ α[k]? = some a ∧ F a = none ∧ H a = some (DicO P w a ks) ∧ Paired (KVOk P w K F α) ks es := by
  obtain ⟨a, h1, rfl⟩ := hv
  obtain ⟨a', g1, g2, xs, g3, g4⟩ := h.ce k _ (cell_get e)
  cases h1.symm.trans g1
  exact ⟨a, xs, rfl, h1, g2, g3, g4⟩
theorem snd_lck {te : TE} {de : DTE} (he : SndE P w K te de) : SndI P w K (iLckK P w te) (diLck de) := fun B S σ ts H R Q h hd kk =>
  he B S σ ts H _ _ h hd fun x dx S1 H1 q o => by
    obtain ⟨k, es, rfl, q⟩ := q
    obtain ⟨F, α, o⟩ := o
    -- what the walk of the locked cell gives, whichever way it was locked
    have main : ∀ (S2 : DSt) (H2 : Hp) (F2 : Hp) (α2 : List Addr) (a : Addr) (ob : Obj) (ls : List Leaf), StAt P w K B S2 σ ((.ref a, .cell k) :: ts) H2 F2 α2 → ls = es.map (·.1) → R (es.map fun p => DY.one (.imm (kvD p.1))) (fun S' => S'.cell k = some (.lck ob es)) S2 → Q (ItK P w a ob ls) H2 := by
      intro S2 H2 F2 α2 a ob ls o2 el q2
      have look : ∀ (B3 : Bs) (S3 : DSt) (σ3 : L2.St) (H3 : Hp) (vs : List (V × DV)), (∀ p ∈ [(V.ref a, DV.cell k)], p ∈ vs) → S3.cell k = some (.lck ob es) → StOk P w K B3 S3 σ3 vs H3 → LckK P w a ob ls H3 := fun B3 S3 σ3 H3 vs hm hs ⟨F3, α3, z⟩ => by
        obtain ⟨b, ys, e, _, _, e3, e4⟩ := z.cellK (z.tm (V.ref a, DV.cell k) (hm _ (by simp))) hs
        cases e
        exact ⟨ys, e3, by rw [el]; exact pair_keys e4⟩
      have hl : ls.length = es.length := by rw [el, List.length_map]
      refine kk _ _ S2 H2 (ItK P w a ob ls) (LckK P w a ob ls) (fun i H3 x H4 => H4 = H3 ∧ ∃ l, ls[i]? = some l ∧ x = kvV l) [(.ref a, .cell k)] q2 (o2.sub fun z hz => by simpa using hz).ok ?_ ?_ ?_
      · exact ⟨fun i H3 hi hG => ⟨hG, by rw [hl]; simpa using hi⟩, fun H3 hG => ⟨hG, by rw [hl]; simp⟩, fun i H3 x H4 hi _ y => y⟩
      · exact fun B3 S3 σ3 H3 vs hv hs o3 => look B3 S3 σ3 H3 vs hv hs o3
      · rintro B3 i S3 σ3 H3 x H4 vs hi hv hs ⟨F3, α3, z⟩ ⟨rfl, l, hl3, rfl⟩
        refine ⟨.one (.imm (kvD l)), ?_, F3, α3, z, kvD_rp (α := α3) l⟩
        rw [el, List.getElem?_map] at hl3
        obtain ⟨p, hp, rfl⟩ := Option.map_eq_some_iff.mp hl3
        rw [List.getElem?_map, hp]; rfl
    rcases q with ⟨e1, q⟩ | ⟨ob, e1, q⟩
    · obtain ⟨a, ks, ev, g1, g2, g3, g4⟩ := o.cellD o.top e1
      subst ev
      refine ⟨a, ks, rfl, .inl ⟨g3, fun ob => ?_⟩⟩
      exact main _ _ _ _ a ob _ (o.cellPut (o := LckO P w ob ks a) (u := .lck ob es) g1 g2 ⟨ks, upd_same, g4⟩) (pair_keys g4) (q ob)
    · obtain ⟨a, ks, ev, g1, g2, g3, g4⟩ := o.cellK o.top e1
      subst ev
      exact ⟨a, ks, rfl, .inr ⟨ob, g3, main _ _ _ _ a ob _ o (pair_keys g4) q⟩⟩
theorem di_lck {X : Cx} {tg e : Expr} {de : DTE} (he : DE X e de) : DI X tg e (diLck de) := by
  obtain ⟨t, a1, a2⟩ := he.ex
  exact ⟨_, pi_lckK a1, snd_lck a2⟩
/-! ### d[k], k in d of a locked dict -/
def gAtK : D2 := fun x y S R => ∃ k ob es l d, x = .cell k ∧ S.cell k = some (.lck ob es) ∧ keyOf y = some l ∧ valG es l = some d ∧ R d S
theorem snd_atK : SndR P w K (rAtL P w) gAtK := fun B S σ ts H x y dx dy R Q h hd k => by
  obtain ⟨j, ob, es, l, d, rfl, hc, hl, hv, q⟩ := hd
  obtain ⟨F, α, h⟩ := h
  obtain ⟨a, ks, ev, g1, g2, g3, g4⟩ := h.cellK h.top2 hc
  subst ev
  obtain ⟨v, v1, v2⟩ := valG_ok g4 hv
  exact ⟨a, ob, ks, l, v, rfl, g3, key_ok h.top hl, v1, k v d S H q ((h.sub mem2).add v2).ok⟩
theorem de_atK {X : Cx} {a b : Expr} {da db : DTE} {pos : Pos} (ha : DE X a da) (hb : DE X b db) (hs : PlainIx b := by exact fun _ _ => rfl) : DE X (.Subscript a b pos) (dOp (gOr gAt gAtK) da db) := by
  obtain ⟨ta, a1, a2⟩ := ha.ex
  obtain ⟨tb, b1, b2⟩ := hb.ex
  exact ⟨_, pe_ix (.or (.or ix_dicZ ix_seq) ix_lck) a1 b1 hs, snd_op a2 b2 (snd_rOr snd_at snd_atK)⟩
def rInLk (P : Program) (w : World) (neg : Bool) : R2 := fun x y H Q => ∃ a ob kvs k, y = .ref a ∧ H a = some (LckO P w ob kvs a) ∧ x = kvV k ∧ Q (.bl (if neg = true then !(valV kvs k).isSome else (valV kvs k).isSome)) H
theorem op_inLk {X : Cx} : OpR X (compareOp .In) (rInLk X.prog X.w false) := by
  intro pins s σ H x y v u Q I rx ry h
  obtain ⟨a, ob, kvs, k, rfl, hH, rfl, q⟩ := h
  cases (show u = Value.ref a from ry)
  obtain ⟨_, _, hd, vs, rel, dd⟩ := lck_of I hH
  have e := (rel.val k).isSome_eq
  exact wpAny_in_of (ck_of rx) hd dd.mapOf ⟨_, H, I.tok _, by rw [← e]; rfl, q⟩
theorem op_ninLk {X : Cx} : OpR X (compareOp .NotIn) (rInLk X.prog X.w true) := by
  intro pins s σ H x y v u Q I rx ry h
  obtain ⟨a, ob, kvs, k, rfl, hH, rfl, q⟩ := h
  cases (show u = Value.ref a from ry)
  obtain ⟨_, _, hd, vs, rel, dd⟩ := lck_of I hH
  have e := (rel.val k).isSome_eq
  exact wpAny_notIn_of (ck_of rx) hd dd.mapOf ⟨_, H, I.tok _, by rw [← e]; rfl, q⟩
def gInK (neg : Bool) : D2 := fun x y S R => ∃ k ob es l, y = .cell k ∧ S.cell k = some (.lck ob es) ∧ keyOf x = some l ∧ R (dB (if neg = true then !(valG es l).isSome else (valG es l).isSome)) S
theorem snd_inK (neg : Bool) : SndR P w K (rInLk P w neg) (gInK neg) := fun B S σ ts H x y dx dy R Q h hd k => by
  obtain ⟨j, ob, es, l, rfl, hc, hl, q⟩ := hd
  obtain ⟨F, α, h⟩ := h
  obtain ⟨a, ks, ev, g1, g2, g3, g4⟩ := h.cellK h.top hc
  subst ev
  refine ⟨a, ob, ks, l, rfl, g3, key_ok h.top2 hl, ?_⟩
  rw [valG_some g4 l]
  exact k _ _ S H q ((h.sub mem2).add vbl).ok
theorem od_inAK {X : Cx} (hu : X.A.units + 65 < cLine) : OpD X (compareOp .In) (gOr (gInA false) (gInK false)) := by
  obtain ⟨r, a1, a2⟩ := (od_inA (X := X) hu).ex
  exact ⟨_, .or a1 op_inLk, snd_rOr a2 (snd_inK false)⟩
theorem od_notinAK {X : Cx} (hu : X.A.units + 65 < cLine) : OpD X (compareOp .NotIn) (gOr (gInA true) (gInK true)) := by
  obtain ⟨r, a1, a2⟩ := (od_notinA (X := X) hu).ex
  exact ⟨_, .or a1 op_ninLk, snd_rOr a2 (snd_inK true)⟩
/-! ### the lock may be taken off wherever the name is read -/
def tUnlO (P : Program) (w : World) (te : TE) : TE := fun σ H Q => te σ H fun v H1 => Q v H1 ∨ ∃ a ob kvs, H1 a = some (LckO P w ob kvs a) ∧ Q v (upd H1 a (DicO P w a kvs))
theorem pe_unlO {X : Cx} {e : Expr} {te : TE} (h : PE X e te) : PE X e (tUnlO X.prog X.w te) := ⟨fun pins s σ H Q I q => by
  refine thn (h.run pins s σ H _ I q) fun u s1 hx => ?_
  obtain ⟨v, H1, I1, r1, q1 | ⟨a, ob, kvs, hH, q1⟩⟩ := hx
  · exact ⟨v, H1, I1, r1, q1⟩
  · obtain ⟨ho, z, hd, vs, rel, dd⟩ := lck_of I1 hH
    exact ⟨v, _, I1.write (x := a) (e := a) (h' := s1.heap) (t' := s1.toks) (by rw [hH]; exact True.intro) (.inl rfl) (fun _ _ _ q => q) ⟨ob, ho⟩ (dz_ok z hd rel dd), r1, q1⟩⟩
def kUnlO (R : DV → DSt → Prop) : DV → DSt → Prop := fun d S1 => R d S1 ∨ ∃ k ob es, S1.cell k = some (.lck ob es) ∧ R d (S1.put k (.dic es))
def dUnlO (de : DTE) : DTE := fun S R => de S (kUnlO R)
theorem DE.unlO {X : Cx} {e : Expr} {de : DTE} (h : DE X e de) : DE X e (dUnlO de) := by
  obtain ⟨t, a1, a2⟩ := h.ex
  refine ⟨_, pe_unlO a1, fun B S σ ts H R Q o hd kk => a2 B S σ ts H _ _ o hd fun v d S1 H1 q o => ?_⟩
  rcases q with q | ⟨k, ob, es, hc, q⟩
  · exact .inl (kk v d S1 H1 q o)
  · obtain ⟨F, α, o⟩ := o
    obtain ⟨a, g1, g2, xs, g3, g4⟩ := o.ce k _ (cell_get hc)
    exact .inr ⟨a, ob, xs, g3, kk v d _ _ q (o.cellPut (o := DicO X.prog X.w a xs) (u := .dic es) g1 g2 ⟨xs, upd_same, g4⟩).ok⟩
end
section
variable {S : DSt} {R : DV → DSt → Prop} {RI : List DY → (DSt → Prop) → DSt → Prop} {de : DTE} {k : Nat} {es : List (Leaf × DV)} {ob : Obj} {x y d : DV} {l : Leaf} {i : Nat}
theorem r_iLck (h : de S (kLck RI)) : diLck de S RI := h
theorem r_kLck (e : S.cell k = some (.dic es)) (q : ∀ ob, RI (es.map fun p => DY.one (.imm (kvD p.1))) (fun S' => S'.cell k = some (.lck ob es)) (S.put k (.lck ob es))) : kLck RI (.cell k) S := ⟨k, es, rfl, .inl ⟨e, q⟩⟩
theorem r_kLcked (e : S.cell k = some (.lck ob es)) (q : RI (es.map fun p => DY.one (.imm (kvD p.1))) (fun S' => S'.cell k = some (.lck ob es)) S) : kLck RI (.cell k) S := ⟨k, es, rfl, .inr ⟨ob, e, q⟩⟩
theorem r_atK (hc : S.cell k = some (.lck ob es)) (hl : keyOf y = some l) (hv : valG es l = some d) (q : R d S) : gOr gAt gAtK (.cell k) y S R := .inr ⟨k, ob, es, l, d, rfl, hc, hl, hv, q⟩
theorem r_atKp (q : gAt x y S R) : gOr gAt gAtK x y S R := .inl q
theorem r_inK {neg : Bool} (hc : S.cell k = some (.lck ob es)) (hl : keyOf x = some l) (q : R (dB (if neg = true then !(valG es l).isSome else (valG es l).isSome)) S) : gOr (gInA neg) (gInK neg) x (.cell k) S R := .inr ⟨k, ob, es, l, rfl, hc, hl, q⟩
theorem r_inKp {neg : Bool} (q : gInA neg x y S R) : gOr (gInA neg) (gInK neg) x y S R := .inl q
theorem r_unlO (h : de S (kUnlO R)) : dUnlO de S R := h
theorem r_stay (q : R d S) : kUnlO R d S := .inl q
theorem r_open (hc : S.cell k = some (.lck ob es)) (q : R d (S.put k (.dic es))) : kUnlO R d S := .inr ⟨k, ob, es, hc, q⟩
end
end DL

set_option Elab.async false
set_option linter.all false
set_option maxRecDepth 100000
set_option autoImplicit false
set_option maxHeartbeats 2000000
namespace DL
open PySem PySem.Spec L2 PyProof.Rows

/-! ## {k: v, ..}, the keys ints, texts, None -/
theorem carriesL {P : Program} {w : World} : ∀ {kvs : List (Leaf × V)} {ws : List (Value × Value)}, VV (kvs.map fun p => (kvV p.1, p.2)) ws → ∃ rs, Carries (cK P w) ws rs ∧ KV kvs rs
  | [], [], _ => ⟨[], trivial, .nil⟩
  | p :: kvs, (a, b) :: ws, .cons h t =>
    let ⟨rs, c, q⟩ := carriesL (P := P) (w := w) t
    ⟨(p.1, b) :: rs, ⟨ck_of h.1, rfl, c⟩, .cons ⟨rfl, h.2⟩ q⟩
def tDispL (P : Program) (w : World) (trs : List (TE × TE)) : TE := fun σ H Q => ∀ D, H D = none → tPairs trs σ (upd H D (DicO P w D [])) fun ps H2 =>
  ∃ kvs : List (Leaf × V), H2 D = some (DicO P w D []) ∧ ps = kvs.map (fun p => (kvV p.1, p.2)) ∧ kvs.length ≤ 15 ∧ Q (.ref D) (upd H2 D (DicO P w D (mergeL [] kvs)))
theorem pe_dispL {X : Cx} {pos : Pos} {keys : List (Option Expr)} {values : List Expr} {trs : List (TE × TE)} (h : PPs X pos keys values trs) (hall : keys.all (·.isSome) = true) (hl : keys.length = values.length) (h0 : keys ≠ []) (h15 : keys.length ≤ 15) :
    PE X (.Dict keys values pos) (tDispL X.prog X.w trs) := by
  refine ⟨fun pins s σ H Q I q => ?_⟩
  have nD := I.hok.fresh (Nat.le_refl s.heap.objs.size)
  have I1 : Inv X pins σ (upd H s.heap.objs.size (DicO X.prog X.w s.heap.objs.size [])) { s with heap := s.heap.push { cls := .type "dict", data := .dict #[] }, toks := s.toks } :=
    I.laid (fun b u e => Heap.get?_push_of_some { cls := .type "dict", data := .dict #[] } e) (Nat.le_refl _) (by exact dz_empty (X := X) (H := H) s.heap I.big)
  refine wpAny_Dict_walk (knd := cK X.prog X.w) hall hl h0 h15 (thn (h.run pins _ σ _ _ I1 (q _ nD)) fun ws s2 hx => ?_)
  obtain ⟨ps, H2, I2, rel, kvs, e, rfl, lk, q2⟩ := hx
  obtain ⟨rs, c, rk⟩ := carriesL (P := X.prog) (w := X.w) rel
  obtain ⟨_, hd, vs0, r0, dd⟩ := dz_of I2 e
  cases r0
  refine ⟨rs, c, dd, fun h' dd' hs => ⟨.ref s.heap.objs.size, _, ?_, rfl, q2⟩⟩
  have hz := mergeL_len kvs []
  exact d_write I2 (by rw [e]; exact True.intro) hs (let ⟨o, _, _, ho, _⟩ := dd'; ⟨o, ho⟩) (dz_ok (by rw [List.length_nil] at hz; rw [sizeLine_eq]; omega) hd (mergeL_kv rk .nil) dd')
/-- the pairs, from the left, over data -/
abbrev DTP := DSt → (List (Leaf × DV) → DSt → Prop) → Prop
def dPairs : List (DTE × DTE) → DTP
  | [] => fun S R => R [] S
  | (dk, dv) :: r => fun S R => dk S fun y S1 => dv S1 fun d S2 => ∃ l, keyOf y = some l ∧ dPairs r S2 fun es S3 => R ((l, d) :: es) S3
structure DPs (X : Cx) (pos : Pos) (keys : List (Option Expr)) (values : List Expr) (drs : List (DTE × DTE)) : Prop where
  ex : ∃ trs : List (TE × TE), PPs X pos keys values trs ∧ ∀ (B : Bs) (S : DSt) (σ : L2.St) (ts : List (V × DV)) (H : Hp) (R : List (Leaf × DV) → DSt → Prop) (Q : List (V × V) → Hp → Prop), StOk X.prog X.w X.K B S σ ts H → dPairs drs S R →
    (∀ kvs es S' H', kvs.map (·.1) = es.map (·.1) → R es S' → StOk X.prog X.w X.K B S' σ (DcL kvs es ++ ts) H' → Q (kvs.map fun p => (kvV p.1, p.2)) H') → tPairs trs σ H Q
section
variable {X : Cx} {pos : Pos} {k v : Expr} {ks : List (Option Expr)} {vs : List Expr} {dk dv : DTE} {drs : List (DTE × DTE)}
theorem dps_nil : DPs X pos [] [] [] := ⟨[], pps_nil, fun B S σ ts H R Q o hd kk => kk [] [] S H rfl hd o⟩
theorem dps_cons (hk : DE X k dk) (hv : DE X v dv) (hr : DPs X pos ks vs drs) : DPs X pos (some k :: ks) (v :: vs) ((dk, dv) :: drs) := by
  obtain ⟨t, a1, a2⟩ := hk.ex
  obtain ⟨u, b1, b2⟩ := hv.ex
  obtain ⟨trs, c1, c2⟩ := hr.ex
  refine ⟨(t, u) :: trs, pps_cons a1 b1 c1, fun B S σ ts H R Q o hd kk => ?_⟩
  refine a2 B S σ ts H _ _ o hd fun x dx S1 H1 q1 o1 => b2 B S1 σ _ H1 _ _ o1 q1 fun y dy S2 H2 q2 o2 => ?_
  obtain ⟨l, el, q2⟩ := q2
  obtain ⟨F2, α2, o2⟩ := o2
  have ex : x = kvV l := key_ok o2.top2 el
  subst ex
  refine c2 B S2 σ _ H2 _ _ o2.ok q2 fun kvs es S3 H3 e3 q3 o3 => kk ((l, y) :: kvs) ((l, dy) :: es) S3 H3 (by simp [e3]) q3 (o3.sub fun p hp => ?_)
  rcases List.mem_cons.mp (show p ∈ (y, dy) :: (DcL kvs es ++ ts) from hp) with e | hp
  · subst e; exact List.mem_append_right _ List.mem_cons_self
  · rcases List.mem_append.mp hp with hp | hp
    · exact List.mem_append_left _ hp
    · exact List.mem_append_right _ (List.mem_cons_of_mem _ (List.mem_cons_of_mem _ hp))
def dDisp (drs : List (DTE × DTE)) : DTE := fun S R => dPairs drs S fun es S1 => es.length ≤ 15 ∧ R (.cell S1.μ.length) (S1.new (.dic (mergeG [] es)))
theorem de_disp {keys : List (Option Expr)} {values : List Expr} (h : DPs X pos keys values drs) (hall : keys.all (·.isSome) = true := by rfl) (hl : keys.length = values.length := by rfl) (h0 : keys ≠ [] := by exact fun z => nomatch z) (h15 : keys.length ≤ 15 := by decide) :
    DE X (.Dict keys values pos) (dDisp drs) := by
  obtain ⟨trs, c1, c2⟩ := h.ex
  refine ⟨_, pe_dispL c1 hall hl h0 h15, fun B S σ ts H R Q o hd kk => ?_⟩
  obtain ⟨F, α, o⟩ := o
  intro D hD
  have hα : D ∉ α := fun q => o.an D q hD
  have hF := o.freeF hD
  have o1 := o.free (o := DicO X.prog X.w D []) hα hF (o.freshB hD)
  have b1 := o1.base
  refine c2 _ S σ ts _ _ _ b1.ok hd fun kvs es S2 H2 ek q2 o2 => ?_
  obtain ⟨F2, α2, o2⟩ := o2
  obtain ⟨d1, d2, d3⟩ := o2.bc D _ upd_same hF hα
  have hp : Paired (KVOk X.prog X.w X.K F2 α2) kvs es := dcL_paired ek fun p hp => o2.tm p (List.mem_append_left _ hp)
  have o3 := (o1.rebase o2).sub fun p hp => List.mem_append_right (DcL kvs es) hp
  refine ⟨kvs, d1, rfl, by rw [Paired.length hp]; exact q2.1, ?_⟩
  have o4 := o3.free (o := DicO X.prog X.w D (mergeL [] kvs)) d3 d2 (o.freshB hD)
  have o5 := o4.adopt (o := .dic (mergeG [] es)) d3 d2 (by rw [upd_same]; exact fun z => by cases z) (o.freshB hD) ⟨mergeL [] kvs, upd_same, paired_up (fun _ _ q => ⟨q.1, q.2.up (Ex.refl _)⟩) (mergeG_ok hp .nil)⟩
  exact kk _ _ _ _ q2.2 (o5.add (d := .cell S2.μ.length) ⟨D, by rw [← o4.al, List.getElem?_append_right (Nat.le_refl _), Nat.sub_self]; rfl, rfl⟩).ok
end
/-! ## d == e, d != e for dicts whose values are data -/
def dictEq (es fs : List (Leaf × PyData)) : Bool := es.length == fs.length && es.all fun p => match valG fs p.1 with
  | some d => PyData.eqv p.2 d
  | none => false
abbrev Vd (K : PySem.W.Frag) (H : Hp) : List (Leaf × V) → List (Leaf × PyData) → Prop := Paired fun p q => p.1 = q.1 ∧ Dp K H p.2 q.2 ∧ SeqAt.shaped q.2 = true
theorem vd_get {K : PySem.W.Frag} {H : Hp} {l : Leaf} : ∀ {ks : List (Leaf × V)} {es : List (Leaf × PyData)}, Vd K H ks es → (valG es l = none ∧ valV ks l = none) ∨ ∃ v d, valG es l = some d ∧ valV ks l = some v ∧ Dp K H v d ∧ SeqAt.shaped d = true
  | _, _, .nil => .inl ⟨rfl, rfl⟩
  | (k, v) :: ks, (k', d) :: es, .cons ⟨e, h1, h2⟩ t => by
    have e : k = k' := e
    subst e
    unfold valG valV
    rw [List.find?_cons, List.find?_cons]
    by_cases c : k = l
    · subst c
      exact .inr ⟨v, d, by simp, by simp, h1, h2⟩
    · rw [decide_eq_false (show ¬ (k, d).1 = l from c)]
      exact vd_get t
section
variable {X : Cx} {pins : List (Addr × Obj)} {σ : L2.St} {H : Hp} {s : Shared}
theorem vd_hits (I : Inv X pins σ H s) (hu : X.A.units + 65 < cLine) {ls : List (Leaf × V)} {fs : List (Leaf × PyData)} {vb : List (Leaf × Value)} (h2 : Vd X.K H ls fs) (rb : KV ls vb) :
    ∀ {ks : List (Leaf × V)} {es : List (Leaf × PyData)} {va : List (Leaf × Value)}, Vd X.K H ks es → KV ks va → PySem.W.KeqHits X.A.in1 s vb va (es.all fun p => match valG fs p.1 with | some d => PyData.eqv p.2 d | none => false)
  | _, _, _, .nil, r => by cases r; exact .nil
  | (k, v) :: ks, (k', d) :: es, va, .cons ⟨e, h1, hs⟩ t, r => by
    have e : k = k' := e
    subst e
    cases r with
    | @cons _ q _ qs r1 r2 =>
      obtain ⟨kk, u⟩ := q
      obtain ⟨e1, r1⟩ := r1
      have e1 : k = kk := e1
      subst e1
      rw [List.all_cons]
      dsimp only
      rcases vd_get (l := k) h2 with ⟨g1, g2⟩ | ⟨z, dz, g1, g2, g3, g4⟩
      · rw [g1]
        have hn : valueAt vb k = none := by
          have := (rb.val k).isSome_eq
          rw [g2] at this
          cases q : valueAt vb k with
          | none => rfl
          | some _ => rw [q] at this; cases this
        exact .miss hn
      · rw [g1]
        obtain ⟨y, hy, ry⟩ := RelO.some_of (v := z) (o := valueAt vb k) (by rw [← g2]; exact rb.val k)
        obtain ⟨as, ra⟩ := Dp.reads I d v u h1 r1
        obtain ⟨bs, rb'⟩ := Dp.reads I dz z y g3 ry
        exact .hit hy (PySem.W.keq_at ra rb' hs g4 (by show X.A.units + 1 + 64 < cLine; omega)) (vd_hits I hu h2 rb t r2)
end
def rDEqv (P : Program) (w : World) (K : PySem.W.Frag) (neg : Bool) : R2 := fun x y H Q => ∃ a b ks ls es fs, x = .ref a ∧ y = .ref b ∧ H a = some (DicO P w a ks) ∧ H b = some (DicO P w b ls) ∧ Vd K H ks es ∧ Vd K H ls fs ∧ Q (.bl (if neg = true then !dictEq es fs else dictEq es fs)) H
section
variable {X : Cx}
theorem op_eqvD (hu : X.A.units + 65 < cLine) : OpR X (compareOp .Eq) (rDEqv X.prog X.w X.K false) := by
  intro pins s σ H x y v u Q I rx ry h
  obtain ⟨a, b, ks, ls, es, fs, rfl, rfl, ha, hb, h1, h2, q⟩ := h
  cases (show v = Value.ref a from rx)
  cases (show u = Value.ref b from ry)
  obtain ⟨_, na, va, ra, da⟩ := dz_of I ha
  obtain ⟨_, nb, vb, rb, db⟩ := dz_of I hb
  refine PySem.W.keq_eq (knd := cK X.prog X.w) na nb da db (by omega) (fun _ => vd_hits I hu h2 rb h1 ra) ?_
  rw [← Paired.length ra, ← Paired.length rb, Paired.length h1, Paired.length h2]
  exact ⟨.bl _, H, I, rfl, q⟩
theorem op_nevD (hu : X.A.units + 65 < cLine) : OpR X (compareOp .NotEq) (rDEqv X.prog X.w X.K true) := by
  intro pins s σ H x y v u Q I rx ry h
  obtain ⟨a, b, ks, ls, es, fs, rfl, rfl, ha, hb, h1, h2, q⟩ := h
  cases (show v = Value.ref a from rx)
  cases (show u = Value.ref b from ry)
  obtain ⟨_, na, va, ra, da⟩ := dz_of I ha
  obtain ⟨_, nb, vb, rb, db⟩ := dz_of I hb
  refine PySem.W.keq_ne (knd := cK X.prog X.w) na nb da db (by omega) (fun _ => vd_hits I hu h2 rb h1 ra) ?_
  rw [← Paired.length ra, ← Paired.length rb, Paired.length h1, Paired.length h2]
  exact ⟨.bl _, H, I, rfl, q⟩
end
/-- the values of a dict in a cell, as data -/
def datK (S : DSt) : List (Leaf × DV) → Option (List (Leaf × PyData))
  | [] => some []
  | (l, d) :: r => match S.dat d, datK S r with
    | some p, some ps => if SeqAt.shaped p = true then some ((l, p) :: ps) else none
    | _, _ => none
def gEqvD (neg : Bool) : D2 := fun x y S R => ∃ es' fs' es fs, S.dict x = some es' ∧ S.dict y = some fs' ∧ datK S es' = some es ∧ datK S fs' = some fs ∧ R (dB (if neg = true then !dictEq es fs else dictEq es fs)) S
section
variable {P : Program} {w : World} {K : PySem.W.Frag} {B : Bs} {S : DSt} {σ : L2.St} {ts : List (V × DV)} {H F : Hp} {α : List Addr}
theorem datK_ok (h : StAt P w K B S σ ts H F α) : ∀ {ks : List (Leaf × V)} {es' : List (Leaf × DV)} {es : List (Leaf × PyData)}, Paired (KVOk P w K F α) ks es' → datK S es' = some es → Vd K H ks es
  | [], [], _, _, e => by cases e; exact .nil
  | (k, v) :: ks, (l, d) :: es', es, .cons h1 t, e => by
    have e : (match S.dat d, datK S es' with | some p, some ps => if SeqAt.shaped p = true then some ((l, p) :: ps) else none | _, _ => none) = some es := e
    split at e
    · rename_i p ps e1 e2
      split at e
      · rename_i hs
        cases e
        exact .cons ⟨h1.1, h.dat h1.2 e1 hs, hs⟩ (datK_ok h t e2)
      · cases e
    · cases e
theorem snd_eqvD (neg : Bool) : SndR P w K (rDEqv P w K neg) (gEqvD neg) := fun B S σ ts H x y dx dy R Q h hd k => by
  obtain ⟨es', fs', es, fs, e1, e2, d1, d2, q⟩ := hd
  obtain ⟨F, α, h⟩ := h
  obtain ⟨a, ks, rfl, hH, p1⟩ := h.dict h.top2 e1
  obtain ⟨b, ls, rfl, hH2, p2⟩ := h.dict h.top e2
  exact ⟨a, b, ks, ls, es, fs, rfl, rfl, hH, hH2, datK_ok h p1 d1, datK_ok h p2 d2, k _ _ S H q ((h.sub mem2).add vbl).ok⟩
end
section
variable {X : Cx}
theorem od_eqXE (hu : X.A.units + 65 < cLine) : OpD X (compareOp .Eq) (gOr gEqX (gEqvD false)) := by
  obtain ⟨r, a1, a2⟩ := (od_eqX (X := X) (by omega)).ex
  exact ⟨_, .or a1 (op_eqvD hu), snd_rOr a2 (snd_eqvD false)⟩
theorem od_neXE (hu : X.A.units + 65 < cLine) : OpD X (compareOp .NotEq) (gOr gNeX (gEqvD true)) := by
  obtain ⟨r, a1, a2⟩ := (od_neX (X := X) (by omega)).ex
  exact ⟨_, .or a1 (op_nevD hu), snd_rOr a2 (snd_eqvD true)⟩
end
section
variable {S : DSt} {R : DV → DSt → Prop} {x y : DV} {drs : List (DTE × DTE)} {dk dv : DTE} {RP : List (Leaf × DV) → DSt → Prop}
theorem r_eqXp (q : gEqX x y S R) : gOr gEqX (gEqvD false) x y S R := .inl q
theorem r_neXEp (q : gNeX x y S R) : gOr gNeX (gEqvD true) x y S R := .inl q
theorem r_eqvD {es' fs' : List (Leaf × DV)} {es fs : List (Leaf × PyData)} (e1 : S.dict x = some es') (e2 : S.dict y = some fs') (d1 : datK S es' = some es) (d2 : datK S fs' = some fs) (q : R (dB (dictEq es fs)) S) : gOr gEqX (gEqvD false) x y S R := .inr ⟨es', fs', es, fs, e1, e2, d1, d2, q⟩
theorem r_nevD {es' fs' : List (Leaf × DV)} {es fs : List (Leaf × PyData)} (e1 : S.dict x = some es') (e2 : S.dict y = some fs') (d1 : datK S es' = some es) (d2 : datK S fs' = some fs) (q : R (dB (!dictEq es fs)) S) : gOr gNeX (gEqvD true) x y S R := .inr ⟨es', fs', es, fs, e1, e2, d1, d2, q⟩
def kDisp (R : DV → DSt → Prop) : List (Leaf × DV) → DSt → Prop := fun es S1 => es.length ≤ 15 ∧ R (.cell S1.μ.length) (S1.new (.dic (mergeG [] es)))
theorem r_disp (h : dPairs drs S (kDisp R)) : dDisp drs S R := h
theorem r_pairs0 (h : RP [] S) : dPairs [] S RP := h
def kPairK (dv : DTE) (drs : List (DTE × DTE)) (RP : List (Leaf × DV) → DSt → Prop) : DV → DSt → Prop := fun y S1 => dv S1 fun d S2 => ∃ l, keyOf y = some l ∧ dPairs drs S2 fun es S3 => RP ((l, d) :: es) S3
theorem r_pairs (h : dk S (kPairK dv drs RP)) : dPairs ((dk, dv) :: drs) S RP := h
theorem r_kPairK {l : Leaf} (e : keyOf y = some l) (h : dv S fun d S2 => dPairs drs S2 fun es S3 => RP ((l, d) :: es) S3) (hm : Mono dv) : kPairK dv drs RP y S := hm S _ _ (fun d S2 q => ⟨l, e, q⟩) h
theorem r_kDisp {es : List (Leaf × DV)} (h : es.length ≤ 15) (q : R (.cell S.μ.length) (S.new (.dic (mergeG [] es)))) : kDisp R es S := ⟨h, q⟩
end
/-! ## repr of a dict whose values have no dict in them -/
def CanShowD (ps : List (PyData × PyData)) : Prop := (PyData.dict ps).showable = true ∧ wtD (.dict ps) ≤ 10000000 ∧ (PyData.dict ps).depth ≤ 50 ∧ PyData.hasDictAll (ps.map (·.1)) = false ∧ PyData.hasDictAll (ps.map (·.2)) = false
theorem repr_dict0 {P : Program} {w : World} {A : Around} {E : Value → Shared → Prop} {s : Shared} {Q : Value → Shared → Prop} {a : Addr} {ps : List (PyData × PyData)} {as : List Addr} (ra : Reads s.heap (.ref a) (.dict ps) as) (hne : (a == sysModules) = false) (hc : CanShowD ps)
    (hg : A.guards = some []) (hu : A.units + 60 < cLine) (hQ : ∀ h' u tk, (∀ b o, s.heap.get? b = some o → h'.get? b = some o) → Q (.str (PyData.dict ps).shown u) { s with heap := h', toks := tk }) : wpAny (model P w) A (call (.builtin "repr") [.ref a]) Q E s := by
  obtain ⟨c1, c2, c3, c4, c5⟩ := hc
  have hl := shown_le (.dict ps)
  have fits : (dictText (PyData.shownKv ps)).length ≤ sizeLine := by
    rw [show dictText (PyData.shownKv ps) = (PyData.dict ps).shown by simp only [PyData.shown], sizeLine_eq]
    omega
  have no : ∀ {ds : List PyData} {xs : List Addr}, PyData.hasDictAll ds = false → PyData.hasDictAll ds = true → sysModules ∉ xs := fun h1 h2 => by rw [h1] at h2; cases h2
  cases id ra with
  | dict r1 r2 r3 r4 r5 =>
    rename_i o es n as₁ bs₁
    obtain ⟨y1, y2⟩ := PyData.showableKv_split ps (by simpa [PyData.showable] using c1)
    obtain ⟨b1, z1, k1⟩ := ReprAllK.of_readsAll (prog := P) (w := w) r4 y1 (no c4) fun t ht =>
      let ⟨p, hp, hl⟩ := PyData.shownKv_key_le ps t ht; Nat.le_trans hl (Nat.le_trans (dictText_mem_le hp) fits)
    obtain ⟨b2, z2, k2⟩ := ReprAllK.of_readsAll (prog := P) (w := w) r5 y2 (no c5) fun t ht =>
      let ⟨p, hp, hl⟩ := PyData.shownKv_val_le ps t ht; Nat.le_trans hl (Nat.le_trans (dictText_mem_le hp) fits)
    have nin : a ∉ b1 ++ b2 := not_mem_of_deeper ra (by simp only [PyData.depth]; omega) ((z1.mono (PyData.depthAll_keys_le ps)).append (z2.mono (PyData.depthAll_vals_le ps)))
    have dp : (PyData.dict ps).depth = PyData.depthKv ps + 1 := by simp only [PyData.depth, Nat.add_comm]
    refine call_repr_slot (by omega) ⟨o, r1, r2⟩ PySem.F.slot_dict_repr ?_
    refine call_dict_reprK r1 r2 r3 hne nin (ReprEntriesK.of_two es.toList _ _ (k1.more_le (fun b hb => List.mem_append_left _ hb) (PyData.depthAll_keys_le ps)) (k2.more_le (fun b hb => List.mem_append_right _ hb) (PyData.depthAll_vals_le ps)))
      (g := []) hg (fun b _ => Clear.nil b) (by show A.units + 1 + _ < cLine; omega) (fun _ _ e => e) (fun h' u tk hk => ⟨_, u, rfl, ?_⟩) (by rw [← PyData.shownKv_eq]; exact fits)
    have := hQ h' u tk hk
    simpa only [PyData.shown, PyData.shownKv_eq] using this
def rReprD (P : Program) (w : World) (K : PySem.W.Frag) : List V → Hp → VK → Prop := fun vs H Q => ∃ (a : Addr) (ps : List (PyData × PyData)) (F : Hp), vs = [.ref a] ∧ Ex F H ∧ Rp P w K F (.ref a) (.dict ps) ∧ CanShowD ps ∧ Q (.str (PyData.dict ps).shown) H
theorem call_reprDD {X : Cx} (hg : X.A.guards = some []) (hu : X.A.units + 60 < cLine) : CallR X (.builtin "repr") (rReprD X.prog X.w X.K) := by
  intro pins s σ H vs us Q I r h
  obtain ⟨a, ps, F, rfl, e, hr, hc, q⟩ := h
  rw [Vals.ref1 r]
  obtain ⟨as, ra⟩ := reads_of I e hr (u := .ref a) rfl
  cases hr with
  | dic h1 h2 h3 =>
    obtain ⟨z, hs, _⟩ := dz_of I (e _ _ h1)
    exact repr_dict0 ra hs hc hg hu fun h' u tk hk => ⟨.str _, H, I.kept hk, ⟨_, rfl⟩, q⟩
def gReprY : DC1 := fun ds S R => gReprX ds S R ∨ (match ds with
  | [d] => ∃ fz ps, FzD S fz d (.dict ps) ∧ CanShowD ps ∧ R (dS (PyData.dict ps).shown) S
  | _ => False)
theorem cd_reprY {X : Cx} (hg : X.A.guards = some []) (hu : X.A.units + 60 < cLine) : CallD X (.builtin "repr") gReprY := by
  obtain ⟨r, c1, c2⟩ := (cd_reprX hg hu).ex
  refine ⟨_, .or c1 (call_reprDD hg hu), fun B S σ ts H xs ds R Q hl h hd k => ?_⟩
  rcases hd with hd | hd
  · exact .inl (c2 B S σ ts H xs ds R Q hl h hd k)
  · match ds, hd with
    | [d], ⟨fz, ps, hf, hc, q⟩ =>
      match xs, hl with
      | [x], _ =>
        obtain ⟨F, α, h⟩ := h
        have hr := fz_rp h hf (h.tm (x, d) (by simp))
        cases id hr with
        | dic h1 h2 h3 =>
          refine .inr ⟨_, ps, fixF F H α fz, rfl, fun b o e => ?_, hr, hc, k _ _ S H q ((h.sub memA).add vstr).ok⟩
          unfold fixF at e
          split at e
          · exact e
          · exact h.fh b o e
section
variable {S : DSt} {R : DV → DSt → Prop}
theorem r_reprY {ds : List DV} (q : gReprX ds S R) : gReprY ds S R := .inl q
theorem r_reprYD {d : DV} {ps : List (PyData × PyData)} (fz : List Nat) (hf : FzD S fz d (.dict ps)) (hc : CanShowD ps) (q : R (dS (PyData.dict ps).shown) S) : gReprY [d] S R := .inr ⟨fz, ps, hf, hc, q⟩
end
end DL

set_option Elab.async false
set_option linter.all false
set_option maxRecDepth 100000
set_option autoImplicit false
set_option maxHeartbeats 2000000
namespace DL
open PySem PySem.Spec L2 PyProof.Rows

/-! ## the scope of a comprehension that stands as a statement's value -/
def topEx : Stmt → Expr
  | .Return (some e) _ => e
  | .Assign _ e _ => e
  | .Expr e _ => e
  | _ => .Constant .none 0 ⟨0, 0, 0, 0⟩
def compSc : Expr → Scope
  | .ListComp _ _ sc _ => sc
  | .DictComp _ _ _ sc _ => sc
  | .SetComp _ _ sc _ => sc
  | .GeneratorExp _ _ sc _ => sc
  | _ => { kind := .function, names := [], isGenerator := false, isCoroutine := false, more := [] }
theorem BlkOk.relab {N : List Str} {sc scope : Scope} {own : List (Str × Nat)} {env : Env} (h : BlkOk N sc scope own) : BlkOk N (relabel sc env) scope own := { h with
  free := fun y hy e => by
    have key : ∀ (names : List (Str × NameKind)) (f : Str × NameKind → Str × NameKind), (∀ p, (f p).1 = p.1 ∧ (p.2 = .cell → (f p).2 = .cell) ∧ (p.2 = .free → (f p).2 = .cell ∨ (f p).2 = .free)) →
        (names.lookup y.1 = some .cell ∨ names.lookup y.1 = some .free) → (names.map f).lookup y.1 = some .cell ∨ (names.map f).lookup y.1 = some .free := by
      intro names f hf
      induction names with
      | nil => intro z; simp at z
      | cons p r ih =>
        obtain ⟨n, k⟩ := p
        obtain ⟨f1, f2, f3⟩ := hf (n, k)
        rw [List.map_cons, List.lookup_cons, List.lookup_cons, f1]
        dsimp only at f1 f2 f3 ⊢
        split
        · intro z
          rcases z with z | z
          · cases z; exact .inl (by rw [f2 rfl])
          · cases z
            rcases f3 rfl with q | q
            · exact .inl (by rw [q])
            · exact .inr (by rw [q])
        · exact ih
    refine key sc.names _ (fun p => ⟨?_, fun e => ?_, fun e => ?_⟩) (h.free y hy e)
    · dsimp only; split <;> rfl
    · dsimp only; rw [e]; simp
    · dsimp only; split
      · exact .inl rfl
      · exact .inr e }
/-! ## a dict of lists that comes from a call -/
/-- the cells js hold the rows -/
def RowsAt (μ : List (Option DO)) (js : List Nat) (rows : List (List Int)) : Prop := js.length = rows.length ∧ js.Nodup ∧ ∀ (i j : Nat) (r : List Int), js[i]? = some j → rows[i]? = some r → μ[j]? = some (some (.lst (r.map dI)))
/-- cell k is a dict from ls to them -/
def DicAt (μ : List (Option DO)) (k : Nat) (js : List Nat) (ls : List Leaf) (rows : List (List Int)) : Prop := ls.length = rows.length ∧ RowsAt μ js rows ∧ k ∉ js ∧ μ[k]? = some (some (.dic (ls.zip (js.map DV.cell))))
theorem rnDs_ints (m : List (Nat × Nat)) : ∀ r : List Int, rnDs m (r.map dI) = some (r.map dI)
  | [] => rfl
  | x :: r => by
    show (match rnD m (dI x), rnDs m (r.map dI) with | some d', some ds' => some (d' :: ds') | _, _ => none) = _
    rw [rnDs_ints m r]; rfl
theorem plant_put {μ' : List (Option DO)} (k : Nat) : ∀ (js : List Nat) (m : List (Nat × Nat)) (μ : List (Option DO)), plant μ' (js ++ [k]) m μ = match plant μ' js m μ with
    | some (m2, μ2) => plant μ' [k] m2 μ2
    | none => none
  | [], _, _ => rfl
  | j :: js, m, μ => by
    show plant μ' (j :: (js ++ [k])) m μ = _
    unfold plant
    split
    · split
      · exact plant_put k js _ _
      · rfl
    · rfl
theorem plant_ints {μ' : List (Option DO)} : ∀ {js : List Nat} {rows : List (List Int)} (m : List (Nat × Nat)) (μ : List (Option DO)), RowsAt μ' js rows →
    ∃ m2, plant μ' js m μ = some (m2, μ ++ rows.map fun r => some (.lst (r.map dI))) ∧ (∀ i j : Nat, js[i]? = some j → m2.lookup j = some (μ.length + i)) ∧ ∀ j, j ∉ js → m2.lookup j = m.lookup j
  | [], [], m, μ, _ => ⟨m, by simp [plant], (fun i j e => by simp at e), fun _ _ => rfl⟩
  | [], _ :: _, _, _, h => by have := h.1; simp at this
  | _ :: _, [], _, _, h => by have := h.1; simp at this
  | j :: js, r :: rows, m, μ, ⟨h1, h2, h3⟩ => by
    obtain ⟨n1, n2⟩ := List.nodup_cons.mp h2
    obtain ⟨m2, p1, p2, p3⟩ := plant_ints (js := js) (rows := rows) ((j, μ.length) :: m) (μ ++ [some (.lst (r.map dI))]) ⟨by simpa using h1, n2, fun i j r e1 e2 => h3 (i + 1) j r (by simpa using e1) (by simpa using e2)⟩
    refine ⟨m2, ?_, fun i x e => ?_, fun x hx => ?_⟩
    · unfold plant
      rw [h3 0 j r rfl rfl]
      dsimp only
      rw [show rnO m (.lst (r.map dI)) = some (.lst (r.map dI)) from by show (rnDs m (r.map dI)).map DO.lst = _; rw [rnDs_ints]; rfl]
      dsimp only
      rw [p1]
      simp
    · cases i with
      | zero =>
        simp at e; subst e
        rw [p3 _ n1, lookup_cons, if_pos rfl]; rfl
      | succ i =>
        have := p2 i x (by simpa using e)
        rw [this]; simp; omega
    · rw [p3 _ (fun z => hx (List.mem_cons_of_mem _ z)), lookup_cons, if_neg fun e => hx (by rw [e]; exact List.mem_cons_self)]
theorem rnKs_cells {m : List (Nat × Nat)} : ∀ {ls : List Leaf} {js : List Nat} (n : Nat), ls.length = js.length → (∀ i j : Nat, js[i]? = some j → m.lookup j = some (n + i)) → rnKs m (ls.zip (js.map DV.cell)) = some (ls.zip ((List.range' n js.length).map DV.cell))
  | [], [], _, _, _ => rfl
  | [], _ :: _, _, h, _ => by simp at h
  | _ :: _, [], _, h, _ => by simp at h
  | l :: ls, j :: js, n, h, hm => by
    have e0 := hm 0 j rfl
    have ih := rnKs_cells (m := m) (ls := ls) (js := js) (n + 1) (by simpa using h) fun i x e => by
      have := hm (i + 1) x (by simpa using e)
      rw [this]; congr 1; omega
    rw [List.map_cons, List.zip_cons_cons, List.length_cons, List.range'_succ, List.map_cons, List.zip_cons_cons]
    show (match rnD m (.cell j), rnKs m (ls.zip (js.map DV.cell)) with | some d', some ps' => some ((l, d') :: ps') | _, _ => none) = _
    rw [ih, show rnD m (.cell j) = some (.cell n) from by show (m.lookup j).map DV.cell = _; rw [e0]; rfl]
/-- what a call gives back, cells within -/
def retN (R : DV → DSt → Prop) (S1 : DSt) (ks : List Nat) : DV → List (Option DO) → Prop := fun d μ' => ∃ js, js.Nodup ∧ (∀ j ∈ js, ks.length ≤ j) ∧ match plant μ' js (handed ks) (backs S1.μ ks μ') with
  | some (m, μ2) => match rnD m d with
    | some d' => R d' ⟨S1.ρ, μ2⟩
    | none => False
  | none => False
section
variable {S : DSt} {R : DV → DSt → Prop} {dsp : DSp} {es : List DV}
theorem r_callN (hb : bareP es = true) (k : dsp es [] (retN R S [])) : ∃ ks, kCallT dsp R (es ++ []) S ks := ⟨[], by
  unfold kCallT
  rw [List.append_nil, ren_bare hb]
  exact ⟨List.nodup_nil, (fun _ h => nomatch h), k⟩⟩
theorem r_retI' {p : PyData} {μ' : List (Option DO)} (q : R (.imm p) S) : retN R S [] (.imm p) μ' := ⟨[], List.nodup_nil, (fun _ h => nomatch h), q⟩
/-- a dict of rows -/
theorem r_retD {μ' : List (Option DO)} {k : Nat} {js : List Nat} {ls : List Leaf} {rows : List (List Int)} (h : DicAt μ' k js ls rows)
    (q : R (.cell (S.μ.length + rows.length)) ⟨S.ρ, S.μ ++ rows.map (fun r => some (.lst (r.map dI))) ++ [some (.dic (ls.zip ((List.range' S.μ.length rows.length).map DV.cell)))]⟩) : retN R S [] (.cell k) μ' := by
  obtain ⟨h1, h2, h3, h4⟩ := h
  obtain ⟨m2, p1, p2, p3⟩ := plant_ints (handed []) S.μ h2
  refine ⟨js ++ [k], List.nodup_append.mpr ⟨h2.2.1, by simp, fun a ha b hb e => h3 (by rw [← List.mem_singleton.mp hb, ← e]; exact ha)⟩, fun _ _ => Nat.zero_le _, ?_⟩
  show match plant μ' (js ++ [k]) (handed []) S.μ with | some (m, μ2) => _ | none => False
  rw [plant_put, p1]
  dsimp only
  unfold plant
  rw [h4]
  dsimp only
  rw [show rnO m2 (.dic (ls.zip (js.map DV.cell))) = some (.dic (ls.zip ((List.range' S.μ.length js.length).map DV.cell))) from by
    show (rnKs m2 _).map DO.dic = _
    rw [rnKs_cells S.μ.length (by rw [h1, h2.1]) p2]; rfl]
  dsimp only
  unfold plant
  dsimp only
  rw [show rnD ((k, (S.μ ++ rows.map fun r => some (DO.lst (r.map dI))).length) :: m2) (.cell k) = some (.cell (S.μ.length + rows.length)) from by
    show (List.lookup k _).map DV.cell = _
    rw [lookup_cons, if_pos rfl]; simp]
  dsimp only
  rw [h2.1]
  exact q
end
end DL

set_option Elab.async false
set_option linter.all false
set_option maxRecDepth 100000
set_option autoImplicit false
set_option maxHeartbeats 2000000
namespace DL
open PySem PySem.Spec L2 PyProof.Rows

/-! ## rows in cells, as they grow -/
section
variable {μ : List (Option DO)} {js : List Nat} {rows : List (List Int)} {k : Nat} {ls : List Leaf}
theorem RowsAt.lt (h : RowsAt μ js rows) {j : Nat} (hj : j ∈ js) : j < μ.length := by
  obtain ⟨i, hi, e⟩ := List.mem_iff_getElem.mp hj
  have hr : i < rows.length := by rw [← h.1]; exact hi
  exact (List.getElem?_eq_some_iff.mp (h.2.2 i j rows[i] (by rw [List.getElem?_eq_getElem hi, e]) (List.getElem?_eq_getElem hr))).1
theorem RowsAt.app (h : RowsAt μ js rows) (μ2 : List (Option DO)) : RowsAt (μ ++ μ2) js rows :=
  ⟨h.1, h.2.1, fun i j r e1 e2 => by rw [List.getElem?_append_left (h.lt (List.mem_of_getElem? e1))]; exact h.2.2 i j r e1 e2⟩
theorem RowsAt.set_ne (h : RowsAt μ js rows) {n : Nat} {o : Option DO} (hn : n ∉ js) : RowsAt (μ.set n o) js rows :=
  ⟨h.1, h.2.1, fun i j r e1 e2 => by rw [List.getElem?_set_ne (show n ≠ j from fun e => hn (by rw [e]; exact List.mem_of_getElem? e1))]; exact h.2.2 i j r e1 e2⟩
theorem RowsAt.set_at (h : RowsAt μ js rows) {i j : Nat} {r : List Int} (hj : js[i]? = some j) : RowsAt (μ.set j (some (.lst (r.map dI)))) js (rows.set i r) := by
  have hl := h.lt (List.mem_of_getElem? hj)
  refine ⟨by rw [List.length_set]; exact h.1, h.2.1, fun i' j' r' e1 e2 => ?_⟩
  by_cases c : i = i'
  · subst c
    cases hj.symm.trans e1
    rw [List.getElem?_set_self hl]
    rw [List.getElem?_set_self (by rw [← h.1]; exact (List.getElem?_eq_some_iff.mp hj).1)] at e2
    cases e2; rfl
  · rw [List.getElem?_set_ne c] at e2
    have : j ≠ j' := fun e => c ((List.getElem_inj h.2.1).mp ((List.getElem?_eq_some_iff.mp hj).2.trans (e.trans (List.getElem?_eq_some_iff.mp e1).2.symm)))
    rw [List.getElem?_set_ne this]
    exact h.2.2 i' j' r' e1 e2
/-- one more row, in a new cell -/
theorem RowsAt.snoc (h : RowsAt μ js rows) {r : List Int} (μ2 : List (Option DO)) : RowsAt (μ ++ some (.lst (r.map dI)) :: μ2) (js ++ [μ.length]) (rows ++ [r]) := by
  refine ⟨by simp [h.1], List.nodup_append.mpr ⟨h.2.1, by simp, fun a ha b hb e => ?_⟩, fun i j r' e1 e2 => ?_⟩
  · have := h.lt ha
    rw [List.mem_singleton] at hb
    omega
  · by_cases c : i < js.length
    · rw [List.getElem?_append_left c] at e1
      rw [List.getElem?_append_left (by rw [← h.1]; exact c)] at e2
      exact (h.app _).2.2 i j r' e1 e2
    · have e : i = js.length := by
        have := (List.getElem?_eq_some_iff.mp e1).1
        simp at this
        omega
      subst e
      rw [List.getElem?_append_right (Nat.le_refl _), Nat.sub_self] at e1
      rw [h.1, List.getElem?_append_right (Nat.le_refl _), Nat.sub_self] at e2
      cases e1
      cases e2
      rw [List.getElem?_append_right (Nat.le_refl _), Nat.sub_self]
      rfl
theorem RowsAt.nil : RowsAt μ [] [] := ⟨rfl, List.nodup_nil, fun i j r e => by simp at e⟩
/-- the rows that a canonical layout holds -/
theorem RowsAt.range (μ μ2 : List (Option DO)) (rows : List (List Int)) : RowsAt (μ ++ rows.map (fun r => some (.lst (r.map dI))) ++ μ2) (List.range' μ.length rows.length) rows := by
  refine ⟨by simp, List.nodup_range', fun i j r e1 e2 => ?_⟩
  have hi := (List.getElem?_eq_some_iff.mp e2).1
  rw [List.getElem?_range' (by simpa using hi)] at e1
  cases e1
  rw [List.getElem?_append_left (by simp; omega), List.getElem?_append_right (by omega), show μ.length + 1 * i - μ.length = i by omega, List.getElem?_map, e2]
  rfl
/-- one entry of the dict -/
theorem valG_zip {D : Type} {l : Leaf} {d : D} {i : Nat} : ∀ {ls : List Leaf} {ds : List D} {i : Nat}, ls.Nodup → ls[i]? = some l → ds[i]? = some d → valG (ls.zip ds) l = some d
  | [], _, _, _, h, _ => by simp at h
  | _ :: _, [], _, _, _, h => by simp at h
  | a :: ls, b :: ds, 0, _, h1, h2 => by
    simp at h1 h2
    subst h1 h2
    simp [valG]
  | a :: ls, b :: ds, i + 1, nd, h1, h2 => by
    rw [List.nodup_cons] at nd
    have h1' : ls[i]? = some l := by simpa using h1
    have ne : ¬ a = l := fun e => nd.1 (e ▸ List.mem_of_getElem? h1')
    have ih := valG_zip (l := l) (i := i) nd.2 h1' (show ds[i]? = some d by simpa using h2)
    unfold valG at ih ⊢
    rw [List.zip_cons_cons, List.find?_cons, decide_eq_false (show ¬ (a, b).1 = l from ne)]
    exact ih
theorem putG_zip {D : Type} {l : Leaf} {d : D} {ls : List Leaf} {ds : List D} (hl : ls.length = ds.length) (h : l ∉ ls) : putG (ls.zip ds) l d = (ls ++ [l]).zip (ds ++ [d]) := by
  unfold putG
  rw [if_neg]
  · rw [List.zip_append hl]; rfl
  · simp only [List.any_eq_true, decide_eq_true_eq, not_exists, not_and]
    exact fun p hp e => h (e ▸ (List.of_mem_zip hp).1)
/-- what the entries lead to, as data -/
theorem datK_rows {S : DSt} {μ : List (Option DO)} (hμ : S.μ = μ) : ∀ {ls : List Leaf} {js : List Nat} {rows : List (List Int)}, ls.length = rows.length → RowsAt μ js rows → datK S (ls.zip (js.map DV.cell)) = some (ls.zip (rows.map fun r => PyData.list (r.map PyData.int)))
  | [], _, _, _, _ => by simp [datK]
  | l :: ls, [], [], h, _ => by simp at h
  | l :: ls, [], _ :: _, _, h => by have := h.1; simp at this
  | l :: ls, _ :: _, [], h, _ => by simp at h
  | l :: ls, j :: js, r :: rows, h, ⟨h1, h2, h3⟩ => by
    have ih := datK_rows (S := S) hμ (ls := ls) (js := js) (rows := rows) (by simpa using h) ⟨by simpa using h1, (List.nodup_cons.mp h2).2, fun i j r e1 e2 => h3 (i + 1) j r (by simpa using e1) (by simpa using e2)⟩
    have hc : S.cell j = some (.lst (r.map dI)) := by
      unfold DSt.cell
      rw [hμ, h3 0 j r rfl rfl]; rfl
    show (match S.dat (.cell j), datK S (ls.zip (js.map DV.cell)) with | some p, some ps => if SeqAt.shaped p = true then some ((l, p) :: ps) else none | _, _ => none) = _
    rw [dat_ints hc, ih]
    dsimp only
    rw [if_pos (shaped_ints r)]
    rfl
/-- frozen, all at once -/
theorem fz_rows {S : DSt} {μ : List (Option DO)} (hμ : S.μ = μ) {fz : List Nat} : ∀ {js : List Nat} {rows : List (List Int)}, RowsAt μ js rows → (∀ j ∈ js, j ∈ fz) → FzAll S fz (js.map DV.cell) (rows.map fun r => PyData.list (r.map PyData.int))
  | [], [], _, _ => .nil
  | [], _ :: _, h, _ => by have := h.1; simp at this
  | _ :: _, [], h, _ => by have := h.1; simp at this
  | j :: js, r :: rows, ⟨h1, h2, h3⟩, hf => by
    refine .cons (.lst (hf j List.mem_cons_self) (ds := r.map dI) ?_ ?_) (fz_rows hμ ⟨by simpa using h1, (List.nodup_cons.mp h2).2, fun i j r e1 e2 => h3 (i + 1) j r (by simpa using e1) (by simpa using e2)⟩ fun j hj => hf j (List.mem_cons_of_mem _ hj))
    · unfold DSt.cell
      rw [hμ, h3 0 j r rfl rfl]; rfl
    · rw [show r.map dI = (r.map PyData.int).map DV.imm by simp]
      exact .imm _
/-- a dict of rows as data -/
def dRows (ls : List Leaf) (rows : List (List Int)) : List (PyData × PyData) := (ls.zip rows).map fun p => (kvD p.1, PyData.list (p.2.map PyData.int))
theorem fz_dic {S : DSt} {fz : List Nat} (hl : ls.length = rows.length) (hr : RowsAt S.μ js rows) (hk : S.cell k = some (.dic (ls.zip (js.map DV.cell)))) (h1 : k ∈ fz) (h2 : ∀ j ∈ js, j ∈ fz) : FzD S fz (.cell k) (.dict (dRows ls rows)) := by
  have e1 : (dRows ls rows).map (·.1) = (ls.zip (js.map DV.cell)).map fun p => kvD p.1 := by
    unfold dRows
    rw [List.map_map, show ((fun x : PyData × PyData => x.1) ∘ fun p : Leaf × List Int => (kvD p.1, PyData.list (p.2.map PyData.int))) = kvD ∘ Prod.fst from rfl, ← List.map_map, List.map_fst_zip (by omega),
      show (fun p : Leaf × DV => kvD p.1) = kvD ∘ Prod.fst from rfl, ← List.map_map, List.map_fst_zip (by rw [List.length_map, hr.1]; omega)]
  have e2 : (ls.zip (js.map DV.cell)).map (·.2) = js.map DV.cell := List.map_snd_zip (by rw [List.length_map, hr.1]; omega)
  have e3 : (dRows ls rows).map (·.2) = rows.map fun r => PyData.list (r.map PyData.int) := by
    unfold dRows
    rw [List.map_map, show ((fun x : PyData × PyData => x.2) ∘ fun p : Leaf × List Int => (kvD p.1, PyData.list (p.2.map PyData.int))) = (fun r : List Int => PyData.list (r.map PyData.int)) ∘ Prod.snd from rfl, ← List.map_map, List.map_snd_zip (by omega)]
  refine .dic h1 hk e1 ?_
  rw [e2, e3]
  exact fz_rows rfl hr h2
end
end DL

set_option Elab.async false
set_option linter.all false
set_option maxRecDepth 100000
set_option autoImplicit false
set_option maxHeartbeats 2000000
namespace DL
open PySem PySem.Spec L2 PyProof.Rows

/-! ## t * j for a tuple t: the new tuple is known to be plain -/
theorem rep_small {a b : Nat} (ha : a ≤ 1000) (hb : b ≤ 1000) : b * a ≤ 1000000 := Nat.le_trans (Nat.mul_le_mul hb ha) (by decide)
/-- the raw step: what t * j leaves -/
theorem mul_tup {X : Cx} {s : Shared} {a : Addr} {items : List Value} {j : Int} {t : Tok} {Q : Value → Shared → Prop} (ht : s.heap.IsTuple a items.toArray) (hne : items ≠ []) (j0 : 2 ≤ j) (j1 : j ≤ 1000) (hl : items.length ≤ 1000)
    (q : Q (.ref s.heap.objs.size) { s with heap := s.heap.push (tob (List.replicate j.toNat items).flatten) }) : wpAny (model X.prog X.w) X.A (binaryOp .Mult (.ref a) (.int j t)) Q X.xe s := by
  obtain ⟨⟨c, dd, dt, slots⟩, e1, e2, n, e3⟩ := ht
  dsimp only at e2 e3
  subst e2 e3
  have some0 : items.toArray.isEmpty = false := by cases items <;> first | exact absurd rfl hne | rfl
  have big : (List.replicate j.toNat items).flatten.length ≤ sizeLine := by
    have := rep_small hl (show j.toNat ≤ 1000 by omega)
    rw [PyProof.Rows.lm_len_rep_flat, sizeLine_eq]; omega
  have prod : ((items.toArray.size : Nat) : Int) * j ≤ 1000000 := by
    have := rep_small hl (show j.toNat ≤ 1000 by omega)
    rw [List.size_toArray, Int.mul_comm]
    calc j * (items.length : Int) = ((j.toNat * items.length : Nat) : Int) := by rw [Int.natCast_mul, Int.toNat_of_nonneg (by omega)]
      _ ≤ 1000000 := by omega
  have step := tuple_mulW a items.toArray n dd slots j t (by simp; omega) (by rw [some0]; simp; omega) (by rw [some0]; simp; omega) (by omega) (by unfold Builtin.Tuple.tupleTooMany; rw [sizeLine_eq]; exact decide_eq_false (by omega)) (by rw [size_rep, List.size_toArray]; exact big)
  have look : ({ s with heap := s.heap } : Shared).TypeIs (.ref a) "tuple" := ⟨_, e1, rfl⟩
  refine wpAny_binaryOp_repeat_ref (T := "tuple") (U := "int") (by decide) look (fun z => typeIs_int z j t) noFill_tuple_mul F.fills_int_mul F.slot_int_rmul repeat_tuple F.slot_int_index.lookup ?_
  have early := int_rmul_tuple j t a items.toArray n dd slots
  refine call_meets F.slot_int_rmul (typeIs_int s j t) F.entry_int_rmul (F.args_int_rmul_2 _ _) early ⟨e1, rfl, look, ?_⟩
  refine call_meets F.slot_tuple_mul look F.entry_tuple_mul (F.args_tuple_mul_2 _ _) step ⟨e1, ?_⟩
  rw [size_rep]
  exact q
def rMulT (K : PySem.W.Frag) : R2 := fun x y H Q => ∃ a j xs, x = .ref a ∧ y = .int j ∧ SqT K H a xs ∧ xs ≠ [] ∧ (2 ≤ j ∧ j ≤ 1000 ∧ xs.length ≤ 1000) ∧ NewZ H (List.replicate j.toNat xs).flatten Q
theorem op_mulT {X : Cx} : OpR X (binaryOp .Mult) (rMulT X.K) := by
  intro pins s σ H x y v u Q I rx ry h
  obtain ⟨a, j, xs, rfl, rfl, hx, hne, ⟨j0, j1, hl⟩, q⟩ := h
  cases (show v = Value.ref a from rx)
  obtain ⟨t, rfl⟩ := (show ∃ t, u = Value.int j t from ry)
  obtain ⟨its, r, ht, _⟩ := I.tuple hx
  have el := r.length
  refine mul_tup ht (fun e => hne (by subst e; cases r; rfl)) j0 j1 (by omega) ?_
  have := rep_small hl (show j.toNat ≤ 1000 by omega)
  exact laidZ (t' := s.toks) I (r.rep j.toNat) (by rw [PyProof.Rows.lm_len_rep_flat, sizeLine_eq]; omega) q
def gMulT : D2 := fun x y S R => match x, y.int? with
  | .imm (.tuple ps), some j => ps ≠ [] ∧ (2 ≤ j ∧ j ≤ 1000 ∧ ps.length ≤ 1000) ∧ R (.imm (.tuple (List.replicate j.toNat ps).flatten)) S
  | _, _ => False
theorem snd_mulT {P : Program} {w : World} {K : PySem.W.Frag} : SndR P w K (rMulT K) gMulT := fun B S σ ts H x y dx dy R Q h hd k => by
  unfold gMulT at hd
  split at hd
  · rename_i ps j e
    obtain ⟨hne, hb, q⟩ := hd
    obtain ⟨F, α, h⟩ := h
    rw [int?_eq e] at h
    obtain ⟨a, ys, rfl, tz, hr⟩ := rp_tup (α := α) h.top2
    have el := hr.length
    exact ⟨a, j, ys, rfl, vok_int h.top, (tz.up h.fh).t, (fun z => hne (by subst z; cases hr; rfl)), ⟨hb.1, hb.2.1, by rw [el]; exact hb.2.2⟩, fun p ob hp ho => k _ _ S _ q ((h.sub mem2).newTup hp ho (hr.rep _)).ok⟩
  · exact hd.elim
theorem od_mulXT {X : Cx} : OpD X (binaryOp .Mult) (gOr (gOr gMul gMulC) gMulT) := by
  obtain ⟨r, a1, a2⟩ := (od_mulX (X := X)).ex
  exact ⟨_, .or a1 op_mulT, snd_rOr a2 snd_mulT⟩
section
variable {S : DSt} {R : DV → DSt → Prop} {x y : DV}
theorem r_mulP (q : gOr gMul gMulC x y S R) : gOr (gOr gMul gMulC) gMulT x y S R := .inl q
theorem r_mulT {ps : List PyData} {j : Int} (hne : ps ≠ []) (hb : 2 ≤ j ∧ j ≤ 1000 ∧ ps.length ≤ 1000) (q : R (.imm (.tuple (List.replicate j.toNat ps).flatten)) S) : gOr (gOr gMul gMulC) gMulT (.imm (.tuple ps)) (dI j) S R := .inr ⟨hne, hb, q⟩
end
end DL

set_option Elab.async false
set_option linter.all false
set_option maxRecDepth 100000
set_option autoImplicit false
set_option maxHeartbeats 2000000
namespace DL
open PySem PySem.Spec L2 PyProof.Rows

/-! ## d.update(e), e another dict -/
def tUpdZ (P : Program) (w : World) (to te : TE) : TE := fun σ H Q => to σ H fun x H1 => ∃ a, x = .ref a ∧ (∃ kvs, H1 a = some (DicO P w a kvs)) ∧ te σ H1 fun y H2 => ∃ b kvs more, y = .ref b ∧ a ≠ b ∧ H2 a = some (DicO P w a kvs) ∧ H2 b = some (DicO P w b more) ∧ kvs.length + more.length ≤ sizeLine ∧ Q .non (upd H2 a (DicO P w a (mergeL kvs more)))
section
variable {X : Cx} {o e : Expr} {apos cpos : Pos} {to te : TE} {do' de : DTE}
theorem pe_updZ (ho : PE X o to) (he : PE X e te) (hbase : attributeBase o "update" X.env (eval o X.env) = eval o X.env := by rfl) (hline : (apos.endLine == cpos.line) = true := by rfl) (ht : backTo cpos (starEach [e] X.env) = [(false, eval e X.env)] := by rfl) :
    PE X (.Call (.Attribute o "update" apos) [e] [] cpos) (tUpdZ X.prog X.w to te) := ⟨fun pins s σ H Q I h => by
  refine wpAny_Call_method1_late hbase hline ht (thn (ho.run pins s σ H _ I h) fun v s1 hv => ?_)
  obtain ⟨x, H1, I1, r1, a, rfl, ⟨kvs0, hH0⟩, q1⟩ := hv
  cases (show v = Value.ref a from r1)
  obtain ⟨_, _, _, _, d0⟩ := dz_of I1 hH0
  refine ⟨"dict", "dict.update", PySem.F.plainAttrs_dict, PySem.F.slot_dict_update, PySem.F.type_dict_update, d0.typeIs, d0.mapOf.noDict, ?_⟩
  refine Calls.callWith_builtin rfl (Calls.evalArgs_plain (Calls.spliced_cons (thn (he.run pins s1 σ H1 _ I1 q1) fun u s2 hu => Calls.spliced_nil ?_)))
  obtain ⟨y, H2, I2, r2, b, kvs, more, rfl, hne, ha, hb, hz, q⟩ := hu
  cases (show u = Value.ref b from r2)
  obtain ⟨_, na, va, ra, da⟩ := dz_of I2 ha
  obtain ⟨_, nb, vb, rb, db⟩ := dz_of I2 hb
  refine call_meetsIn PySem.F.slot_dict_update da.typeIs PySem.F.entry_dict_update (PySem.F.args_dict_update_2 _ _) (meets_dict_update (cK X.prog X.w) a b hne nb) ⟨va, vb, da, db, by rw [← ra.length, ← rb.length]; exact hz, fun h' hm _ hs => ?_⟩
  have hl := mergeL_len more kvs
  exact ⟨.non, _, d_write I2 (by rw [ha]; exact True.intro) hs (let ⟨o, _, _, ho, _⟩ := hm; ⟨o, ho⟩) (dz_ok (by omega) na (mergeL_kv rb ra) hm), rfl, q⟩⟩
def kUpd (de : DTE) (R : DV → DSt → Prop) : DV → DSt → Prop := fun x S1 => ∃ k, x = .cell k ∧ (∃ es, S1.cell k = some (.dic es)) ∧ de S1 fun y S2 => ∃ j es fs, y = .cell j ∧ k ≠ j ∧ S2.cell k = some (.dic es) ∧ S2.cell j = some (.dic fs) ∧ es.length + fs.length ≤ sizeLine ∧ R dN (S2.put k (.dic (mergeG es fs)))
def dUpd (do' de : DTE) : DTE := fun S R => do' S (kUpd de R)
theorem de_upd (ho : DE X o do') (he : DE X e de) (hbase : attributeBase o "update" X.env (eval o X.env) = eval o X.env := by rfl) (hline : (apos.endLine == cpos.line) = true := by rfl) (ht : backTo cpos (starEach [e] X.env) = [(false, eval e X.env)] := by rfl) :
    DE X (.Call (.Attribute o "update" apos) [e] [] cpos) (dUpd do' de) := by
  obtain ⟨t, a1, a2⟩ := ho.ex
  obtain ⟨u, b1, b2⟩ := he.ex
  refine ⟨_, pe_updZ a1 b1 hbase hline ht, fun B S σ ts H R Q h hd kk => a2 B S σ ts H _ _ h hd fun x d S1 H1 q o1 => ?_⟩
  obtain ⟨k, rfl, ⟨es0, e0⟩, q⟩ := q
  obtain ⟨F1, α1, o1⟩ := o1
  obtain ⟨a, ks0, ex, g1, g2, g3, _⟩ := o1.cellD o1.top e0
  subst ex
  refine ⟨a, rfl, ⟨ks0, g3⟩, b2 B S1 σ _ H1 _ _ o1.ok q fun y dy S2 H2 q2 o2 => ?_⟩
  obtain ⟨j, es, fs, rfl, hne, e1, e2, hz, q2⟩ := q2
  obtain ⟨F2, α2, o2⟩ := o2
  obtain ⟨a', ks, ea, p1, p2, p3, p4⟩ := o2.cellD o2.top2 e1
  cases ea
  obtain ⟨b, ls, eb, r1, r2, r3, r4⟩ := o2.cellD o2.top e2
  subst eb
  refine ⟨b, ks, ls, rfl, fun e => hne (by subst e; exact nd_at o2.nd p1 r1), p3, r3, by rw [Paired.length p4, Paired.length r4]; exact hz, ?_⟩
  exact kk _ _ _ _ q2 (((o2.cellPut (u := .dic (mergeG es fs)) p1 p2 ⟨_, upd_same, mergeG_ok r4 p4⟩).sub mem2).add vnon).ok
theorem r_upd {S : DSt} {R : DV → DSt → Prop} (h : do' S (kUpd de R)) : dUpd do' de S R := h
theorem r_kUpd {S : DSt} {R : DV → DSt → Prop} {k : Nat} {es : List (Leaf × DV)} (e : S.cell k = some (.dic es)) (h : de S fun y S2 => ∃ j es fs, y = .cell j ∧ k ≠ j ∧ S2.cell k = some (.dic es) ∧ S2.cell j = some (.dic fs) ∧ es.length + fs.length ≤ sizeLine ∧ R dN (S2.put k (.dic (mergeG es fs)))) : kUpd de R (.cell k) S := ⟨k, rfl, ⟨es, e⟩, h⟩
end
end DL

set_option Elab.async false
set_option linter.all false
set_option maxRecDepth 100000
set_option autoImplicit false
set_option maxHeartbeats 2000000
namespace DL
open PySem PySem.Spec L2 PyProof.Rows

/-! ## where a comprehension stands in a call -/
def argAt (i : Nat) : Expr → Expr
  | .Call _ as _ _ => as.getD i (.Constant .none 0 ⟨0, 0, 0, 0⟩)
  | e => e
/-! ## sorted(xs), the items lists of whole numbers -/
def encL (r : List Int) : PyData := .list (r.map .int)
def sortL (rows : List (List Int)) : List (List Int) := rows.mergeSort fun p q => decide (p ≤ q)
def rSortedL (P : Program) (w : World) (K : PySem.W.Frag) : List V → Hp → VK → Prop := fun vs H Q => ∃ (a : Addr) (xs : List V) (rows : List (List Int)) (F : Hp), vs = [V.ref a] ∧ SqL K H a xs ∧ Ex F H ∧ RpAll P w K F xs (rows.map encL) ∧
  ∀ (ys : List V) (p : Addr), RpAll P w K F ys ((sortL rows).map encL) → H p = none → Q (.ref p) (upd H p (.lst ys))
section
variable {X : Cx} {pins : List (Addr × Obj)} {σ : L2.St} {H F : Hp} {s : Shared}
theorem each_rp {P : Program} {w : World} {K : PySem.W.Frag} : ∀ {rows : List (List Int)} {xs : List V} {its : List Value}, RpAll P w K F xs (rows.map encL) → Vals xs its → PySem.W.EachIs (fun v r => ∃ x, RelV x v ∧ Rp P w K F x (encL r)) its rows
  | [], _, _, h, rv => by
    have h' : RpAll P w K F _ [] := h
    cases h'; cases rv; exact .nil
  | r :: rows, _, _, h, rv => by
    have h' : RpAll P w K F _ (encL r :: rows.map encL) := h
    cases h' with
    | cons h1 h2 => cases rv with
      | cons r1 r2 => exact .cons ⟨_, r1, h1⟩ (each_rp h2 r2)
theorem rp_each {P : Program} {w : World} {K : PySem.W.Frag} : ∀ {rows : List (List Int)} {its : List Value}, PySem.W.EachIs (fun v r => ∃ x, RelV x v ∧ Rp P w K F x (encL r)) its rows → ∃ xs, RpAll P w K F xs (rows.map encL) ∧ Vals xs its
  | _, _, .nil => ⟨[], .nil, .nil⟩
  | _, _, .cons ⟨x, h1, h2⟩ t => by
    obtain ⟨xs, a, b⟩ := rp_each t
    exact ⟨x :: xs, .cons h2 a, .cons h1 b⟩
theorem depth_encL (r : List Int) : (encL r).depth ≤ 1 := by
  unfold encL
  rw [PyData.depth, PySem.W.depth_ints]
  omega
theorem cr_sortedL (hu : X.A.units + 60 < cLine) : CallR X (.builtin "sorted") (rSortedL X.prog X.w X.K) := by
  intro pins s σ H vs us Q I r h
  obtain ⟨a, xs, rows, F, rfl, hs, e, hr, q⟩ := h
  obtain ⟨its, rv, hl, hz⟩ := I.list hs
  rw [Vals.ref1 r]
  have e1 := each_rp hr rv
  have hlen : rows.length = xs.length := by rw [hr.length, List.length_map]
  refine PySem.W.sorted_data (enc := encL) hl.isList e1 (e1.mono fun v d ⟨x, h1, h2⟩ => reads_of I e h2 h1) (PySem.W.AllAlike.of fun b b' => ?_) (PySem.W.Sortable.others fun b => ⟨(fun z => nomatch z), (fun _ z => nomatch z)⟩) (by rw [hlen]; exact hz) (fun b _ => by have := depth_encL b; omega) fun out hn eo => ?_
  · show PySem.W.alike (.list _) (.list _) = true
    rw [PySem.W.alike]
    exact PySem.W.alike_ints b b'
  · rw [show PySem.W.dataLe false encL = fun p q => decide (p ≤ q) from PySem.W.dataLe_rows fun r => r] at eo
    obtain ⟨ys, ry, ry2⟩ := rp_each eo
    obtain ⟨ep, he'⟩ := PyProof.Rows.sortedAll_at s.heap its out.toArray
    have hly : ys.length ≤ sizeLine := by
      rw [ry2.length, hn, hlen]; exact hz
    exact ⟨.ref _, upd H (s.heap.objs.size + 1) (.lst ys), I.laid (t' := s.toks) (fun _ _ => PyProof.Rows.sortedAll_old) (Nat.le_succ _) ⟨hly, out, ep, ry2, he'⟩, rfl, q _ _ ry (I.hok.fresh (Nat.le_succ _))⟩
end
def gSortedL : DC1 := fun ds S R => match ds with
  | [x] => ∃ es rows, S.seq x = some (true, es) ∧ allImm es = some (rows.map encL) ∧ R (.imm (.list ((sortL rows).map encL))) S
  | _ => False
theorem cd_sortedL {X : Cx} (hu : X.A.units + 60 < cLine) : CallD X (.builtin "sorted") gSortedL := ⟨_, cr_sortedL hu, fun B S σ ts H xs ds R Q hl h hd k => by
  match ds, hd with
  | [x], hd =>
    match xs, hl with
    | [y], _ =>
      obtain ⟨F, α, h⟩ := h
      have h1 := h.tm (y, x) (by simp)
      obtain ⟨es, rows, e1, e2, q⟩ := hd
      obtain ⟨p, ys, rfl, hq, hp⟩ := h.seq h1 e1
      exact ⟨p, ys, rows, F, rfl, hq, h.fh, imms e2 hp, fun zs l hz hn => k _ _ S _ q ((h.sub memA).newLst hn hz).ok⟩⟩
theorem r_sortedL {x : DV} {es : List DV} {rows : List (List Int)} {S : DSt} {R : DV → DSt → Prop} (e1 : S.seq x = some (true, es)) (e2 : allImm es = some (rows.map encL)) (q : R (.imm (.list ((sortL rows).map encL))) S) : gSortedL [x] S R := ⟨es, rows, e1, e2, q⟩
/-- what is in order, is what sorted gives -/
theorem sortL_eq {rows out : List (List Int)} (hp : rows.Perm out) (ho : out.Pairwise (· ≤ ·)) : sortL rows = out := by
  refine List.Perm.eq_of_pairwise (le := (· ≤ ·)) (fun a b _ _ h1 h2 => List.le_antisymm h1 h2) ?_ ho ((List.mergeSort_perm _ _).trans hp)
  have := List.pairwise_mergeSort (le := fun p q : List Int => decide (p ≤ q)) (fun a b c h1 h2 => decide_eq_true (List.le_trans (of_decide_eq_true h1) (of_decide_eq_true h2))) (fun a b => by
    rcases List.le_total a b with z | z
    · simp [z]
    · simp [z]) rows
  exact this.imp fun h => of_decide_eq_true h
end DL

set_option Elab.async false
set_option linter.all false
set_option maxRecDepth 100000
set_option autoImplicit false
set_option maxHeartbeats 2000000
namespace DL
open PySem PySem.Spec L2 PyProof.Rows

/-! ## a promise that is never asked -/
theorem dfn_none {P : Program} {w : World} {K : PySem.W.Frag} {mg : Str → Option Value} {base : Heap} {k : Nat} {f : Addr} {fd : FuncData} {ps : List Str} {dsp : DSp} (h : ∀ ds μ R, ¬ dsp ds μ R) : DFn P w K mg base k f fd ps dsp :=
  ⟨⟨fun vs H Q E ⟨_, _, _, _, _, _, _, q, _⟩ => absurd q (h _ _ _), fun A outer s H args us vs Q E _ _ _ _ _ ⟨_, _, _, _, _, _, _, q, _⟩ => absurd q (h _ _ _)⟩⟩
/-! ## {} that stays as it is -/
def dNewDO : DTE := fun S R => dNewD S R ∨ R (.imm (.dict [])) S
section
variable {X : Cx} {pos : Pos}
theorem de_newDO : DE X (.Dict [] [] pos) dNewDO := ⟨_, pe_view pe_dnewK, fun B S σ ts H R Q h hd k => by
  obtain ⟨F, α, o⟩ := h
  intro p hp
  have o1 := o.free (o := .dK []) (fun q => o.an p q hp) (o.freeF hp) (o.freshB hp)
  refine ⟨p, [], rfl, upd_same, ?_⟩
  have e2 : upd (upd H p (.dK [])) p (DicO X.prog X.w p (lfs [])) = upd H p (DicO X.prog X.w p []) := by
    funext b
    unfold upd
    by_cases c : b = p
    · rw [if_pos c, if_pos c]; rfl
    · rw [if_neg c, if_neg c, if_neg c]
  rw [e2]
  rcases hd with hd | hd
  · exact k _ _ _ _ hd ((o.cellNew (o := DicO X.prog X.w p []) (u := .dic []) hp ⟨[], upd_same, .nil⟩).add (d := .cell S.μ.length) ⟨p, by rw [← o.al, List.getElem?_append_right (Nat.le_refl _), Nat.sub_self]; rfl, rfl⟩).ok
  · exact k _ _ S _ hd ((o.lay (o := DicO X.prog X.w p []) hp).add (v := .ref p) (d := .imm (.dict [])) (Rp.dic (kvs := []) (ps := []) upd_same rfl RpAll.nil)).ok⟩
end
theorem r_newDC {S : DSt} {R : DV → DSt → Prop} (q : dNewD S R) : dNewDO S R := .inl q
theorem r_newDI {S : DSt} {R : DV → DSt → Prop} (q : R (.imm (.dict [])) S) : dNewDO S R := .inr q
/-! ## repr of data in which {} stands, but no list -/
mutual
def noL : PyData → Bool
  | .list _ => false
  | .tuple xs => noLAll xs
  | .dict ps => ps.isEmpty
  | _ => true
def noLAll : List PyData → Bool
  | [] => true
  | x :: xs => noL x && noLAll xs
end
theorem readsAll_no {h : Heap} {vs : List Value} {as : List Addr} (r : ReadsAll h vs [] as) : as = [] := by cases r; rfl
section
variable {X : Cx} {pins : List (Addr × Obj)} {σ : L2.St} {H F : Hp} {s : Shared}
mutual
theorem reads_nol (I : Inv X pins σ H s) (e : Ex F H) : ∀ {d : PyData} {v : V}, noL d = true → Rp X.prog X.w X.K F v d → ∀ {u : Value}, RelV v u → ∃ as, Reads s.heap u d as ∧ sysModules ∉ as
  | .none, _, _, .non, u, r => by cases (show u = Value.none from r); exact ⟨_, .none, by simp⟩
  | .bool b, _, _, .bl _, u, r => by cases (show u = Value.bool b from r); exact ⟨_, .bool b, by simp⟩
  | .int i, _, _, .int _, u, r => by obtain ⟨t, rfl⟩ := (show ∃ t, u = Value.int i t from r); exact ⟨_, .int i t, by simp⟩
  | .str x, _, _, .str _, u, r => by obtain ⟨t, rfl⟩ := (show ∃ t, u = Value.str x t from r); exact ⟨_, .str x t, by simp⟩
  | .list ds, _, hn, _, u, r => by simp [noL] at hn
  | .tuple ds, _, hn, .tup (a := a) (xs := xs) h hr, u, r => by
    cases (show u = Value.ref a from r)
    obtain ⟨its, rv, ⟨o, ho, hc, n, hd⟩, _⟩ := I.tuple (h.up e).t
    obtain ⟨as, ra, hs⟩ := readsAll_nol I e (by simpa [noL] using hn) hr rv
    exact ⟨_, .tuple ho hc hd ra, hs⟩
  | .dict ps, _, hn, .dic (a := a) (kvs := kvs) h hk hv, u, r => by
    obtain ⟨as, ra⟩ := reads_of I e (.dic h hk hv) r
    have hp : ps = [] := by simpa [noL] using hn
    subst hp
    obtain ⟨z, hs, _⟩ := dz_of I (e _ _ h)
    cases (show u = Value.ref a from r)
    refine ⟨as, ra, ?_⟩
    cases ra with
    | dict r1 r2 r3 r4 r5 =>
      rw [readsAll_no r4, readsAll_no r5]
      intro q
      rcases List.mem_cons.mp q with q | q
      · exact absurd hs (by rw [← q]; simp)
      · cases q
theorem readsAll_nol (I : Inv X pins σ H s) (e : Ex F H) : ∀ {ds : List PyData} {vs : List V}, noLAll ds = true → RpAll X.prog X.w X.K F vs ds → ∀ {us : List Value}, Vals vs us → ∃ as, ReadsAll s.heap us ds as ∧ sysModules ∉ as
  | [], _, _, .nil, _, r => by cases r; exact ⟨_, .nil, by simp⟩
  | _ :: _, _, hn, .cons h hr, _, r => by
    cases r with
    | cons r1 r2 =>
      rw [noLAll, Bool.and_eq_true] at hn
      obtain ⟨as, a1, a2⟩ := reads_nol I e hn.1 h r1
      obtain ⟨bs, b1, b2⟩ := readsAll_nol I e hn.2 hr r2
      exact ⟨_, .cons a1 b1, fun q => (List.mem_append.mp q).elim a2 b2⟩
end
end
/-- data that may be shown, {} in it too -/
def CanShowN (d : PyData) : Prop := d.showable = true ∧ wtD d ≤ 10000000 ∧ d.depth ≤ 50 ∧ noL d = true
theorem CanShowN.fits {d : PyData} (h : CanShowN d) : d.shown.length ≤ sizeLine := by
  have h1 := shown_le d
  have h2 := h.2.1
  rw [sizeLine_eq]
  omega
def rReprN (P : Program) (w : World) (K : PySem.W.Frag) : List V → Hp → VK → Prop := fun vs H Q => ∃ (v : V) (d : PyData) (F : Hp), vs = [v] ∧ Ex F H ∧ Rp P w K F v d ∧ CanShowN d ∧ (∃ a, v = .ref a) ∧ Q (.str d.shown) H
theorem call_reprN {X : Cx} (hg : X.A.guards = some []) (hu : X.A.units + 60 < cLine) : CallR X (.builtin "repr") (rReprN X.prog X.w X.K) := by
  intro pins s σ H vs us Q I r h
  obtain ⟨v, d, F, rfl, e, hr, hc, ⟨a, rfl⟩, q⟩ := h
  rw [Vals.ref1 r]
  obtain ⟨as, ra, hs⟩ := reads_nol I e hc.2.2.2 hr (u := .ref a) rfl
  exact repr_of_reads' ra hc.1 (fun _ => hs) hg (by have := hc.2.2.1; omega) (fun _ _ e => e) (fun h' u tk hk => ⟨.str _, H, I.kept hk, ⟨_, rfl⟩, q⟩) hc.fits
def isBox : PyData → Bool
  | .tuple _ => true
  | .dict _ => true
  | _ => false
def gReprN : DC1 := fun ds S R => gReprX ds S R ∨ (match ds with
  | [.imm d] => CanShowN d ∧ isBox d = true ∧ R (dS d.shown) S
  | _ => False)
theorem cd_reprN {X : Cx} (hg : X.A.guards = some []) (hu : X.A.units + 60 < cLine) : CallD X (.builtin "repr") gReprN := by
  obtain ⟨r, c1, c2⟩ := (cd_reprX hg hu).ex
  refine ⟨_, .or c1 (call_reprN hg hu), fun B S σ ts H xs ds R Q hl h hd k => ?_⟩
  rcases hd with hd | hd
  · exact .inl (c2 B S σ ts H xs ds R Q hl h hd k)
  · match ds, hd with
    | [.imm d], ⟨hc, hd, q⟩ =>
      match xs, hl with
      | [x], _ =>
        obtain ⟨F, α, h⟩ := h
        have hx : Rp X.prog X.w X.K F x d := h.tm (x, .imm d) (by simp)
        have hr : ∃ a, x = V.ref a := by
          cases d with
          | tuple _ => cases hx; exact ⟨_, rfl⟩
          | dict _ => cases hx; exact ⟨_, rfl⟩
          | _ => cases hd
        exact .inr ⟨x, d, F, rfl, h.fh, hx, hc, hr, k _ _ S H q ((h.sub memA).add vstr).ok⟩
theorem r_reprNX {ds : List DV} {S : DSt} {R : DV → DSt → Prop} (q : gReprX ds S R) : gReprN ds S R := .inl q
theorem r_reprN {d : PyData} {S : DSt} {R : DV → DSt → Prop} (hc : CanShowN d) (hd : isBox d = true) (q : R (dS d.shown) S) : gReprN [.imm d] S R := .inr ⟨hc, hd, q⟩
/-! ## max(xs) -/
def gMaxL : DC1 := fun ds S R => match ds with
  | [x] => ∃ es ns, S.seq x = some (true, es) ∧ allI es = some ns ∧ 0 < ns.length ∧ ∀ m, m ∈ ns → (∀ y, y ∈ ns → y ≤ m) → R (dI m) S
  | _ => False
theorem cd_maxL {X : Cx} (hc : X.calm = true) : CallD X (.builtin "max") gMaxL := ⟨_, cr_max hc, fun B S σ ts H xs ds R Q hl h hd k => by
  match ds, hd with
  | [x], hd =>
    match xs, hl with
    | [y], _ =>
      obtain ⟨F, α, h⟩ := h
      have h1 := h.tm (y, x) (by simp)
      obtain ⟨es, ns, e, e2, hn, q⟩ := hd
      obtain ⟨p, ys, rfl, hq, hp⟩ := h.seq h1 e
      have hq' : SqL X.K H p ys := hq
      rw [allI_ok hp e2] at hq'
      exact ⟨p, ns, rfl, hq', hn, fun m m1 m2 => k _ _ S H (q m m1 m2) ((h.sub memA).add vint).ok⟩⟩
theorem r_maxL {x : DV} {es : List DV} {ns : List Int} {S : DSt} {R : DV → DSt → Prop} (e1 : S.seq x = some (true, es)) (e2 : allI es = some ns) (hn : 0 < ns.length) (q : ∀ m, m ∈ ns → (∀ y, y ∈ ns → y ≤ m) → R (dI m) S) : gMaxL [x] S R := ⟨es, ns, e1, e2, hn, q⟩
end DL

set_option Elab.async false
set_option linter.all false
set_option maxRecDepth 100000
set_option autoImplicit false
set_option maxHeartbeats 2000000
namespace DL
open PySem PySem.Spec L2 PyProof.Rows

/-! ## {**a, **b} -/
section
variable {P : Program} {w : World} {A : Around} {E : Value → Shared → Prop} {s : Shared}
theorem wpAny_dictPutZ {d : Addr} {kvs : List (Leaf × Value)} {k : Leaf} {key v : Value} {Q : Unit → Shared → Prop} (hkey : (cK P w).is k key = true) (hm : s.heap.DictOf (cK P w) d kvs)
    (hQ : ∀ h', h'.DictOf (cK P w) d (stored kvs k v) → Heap.SameBut d s.heap h' → Q () { s with heap := h' }) (hsz : kvs.length ≤ sizeLine) :
    wpAny (model P w) A (dictPut d ((cK P w).hash k) key v) Q E s := by
  obtain ⟨o, es, ep, ho, hc, hd, hk, hp, hn⟩ := hm
  have hes : es.size ≤ sizeLine := by have e1 := hp.length; have e2 : es.toList.length = es.size := by simp
                                      omega
  unfold dictPut
  refine wpAny_bind (wpAny_dictFind_of hkey ho hd hk ?_)
  have hidx : (es.findIdx? fun e => (cK P w).is k e.key) = kvs.findIdx? fun kv => decide (kv.1 = k) := by
    rw [← hp.findIdx k]; obtain ⟨l⟩ := es; simp
  cases hi : es.findIdx? fun e => (cK P w).is k e.key with
  | some i =>
    refine wpAny_updateDict ho hd (hQ _ ⟨_, _, ep, Heap.get?_update_self _ ho (Obj.isFreed_of_dict (Obj.data_mapDict hd _)),
      hc.mapDict _, Obj.data_mapDict hd _, hk.modify _ _, ?_, ?_⟩ (Heap.SameBut.update ..))
    · rw [stored, if_pos (any_of_findIdx_some (hidx ▸ hi))]
      have hl : (es.toList.findIdx? fun e => (cK P w).is k e.key) = some i := by rw [← hi]; obtain ⟨l⟩ := es; simp
      have := hp.modify hn hl v
      obtain ⟨l⟩ := es
      simpa using this
    · rw [stored, if_pos (any_of_findIdx_some (hidx ▸ hi)), keys_map_store]; exact hn
  | none =>
    have hnot : k ∉ kvs.map (·.1) := not_mem_of_findIdx_none (hidx ▸ hi)
    have hany : ¬ (kvs.any fun kv => decide (kv.1 = k)) = true := by
      rw [List.any_eq_true]; rintro ⟨kv, hkv, he⟩
      exact hnot (List.mem_map.mpr ⟨kv, hkv, of_decide_eq_true he⟩)
    refine wpAny_updateDictKeys (hz := hes) ho hd (hQ _ ⟨_, _, ep + 1, Heap.get?_update_self _ ho (Obj.isFreed_of_dict (Obj.data_mapDictKeys hd _)),
      hc.mapDictKeys _, Obj.data_mapDictKeys hd _, hk.push hkey _, ?_, ?_⟩ (Heap.SameBut.update ..))
    · rw [stored, if_neg hany]
      have := hp.append hkey ((cK P w).hash k) v
      obtain ⟨l⟩ := es
      simpa using this
    · rw [stored, if_neg hany, List.map_append, List.nodup_append]
      refine ⟨hn, by simp, ?_⟩
      intro a ha b hb
      simp only [List.map_cons, List.map_nil, List.mem_singleton] at hb
      subst hb
      exact fun e => hnot (e ▸ ha)
/-- such keys are no objects -/
theorem key_noref {l : Leaf} {key : Value} (h : (cK P w).is l key = true) : ∀ a, key ≠ .ref a := by
  have r := ck_rel h
  intro a e
  subst e
  cases l with
  | none => exact absurd (show Value.ref a = Value.none from r) (by simp)
  | num i => obtain ⟨t, ht⟩ := (show ∃ t, Value.ref a = Value.int i t from r); cases ht
  | text i => obtain ⟨t, ht⟩ := (show ∃ t, Value.ref a = Value.str i t from r); cases ht
theorem wpAny_mergeZ {d o : Addr} {kvs more : List (Leaf × Value)} {Q : Unit → Shared → Prop} (hdo : d ≠ o) (hoS : (o == sysModules) = false)
    (hd : s.heap.DictOf (cK P w) d kvs) (ho : s.heap.DictOf (cK P w) o more)
    (hQ : ∀ h', h'.DictOf (cK P w) d (merged kvs more) → h'.DictOf (cK P w) o more → Heap.SameBut d s.heap h' → Q () { s with heap := h' })
    (hsz : kvs.length + more.length ≤ sizeLine) :
    wpAny (model P w) A (mergeMapping d (.ref o) false) Q E s := by
  obtain ⟨od, esd, epd, hod, hcd, hdd, hkd, hpd, hnd⟩ := id hd
  obtain ⟨oo, eso, epo, hoo, hco, hdo', hko, hpo, hno⟩ := id ho
  have hlen : more.length = eso.size := by rw [← hpo.length]; simp
  unfold mergeMapping
  refine wpAny_bind (wpAny_isInstance ho.typeIs isSubtype_dict_dict ?_)
  simp only [if_true]
  refine wpAny_bind (wpAny_specialOf ho.typeIs F.slot_dict_iter.lookup ?_)
  simp only [beq_self_eq_true]
  refine wpAny_bind (wpAny_pure ?_)
  dsimp only
  rw [if_neg (by rw [hoS]; exact Bool.false_ne_true)]
  refine wpAny_bind (wpAny_dictEntries hod hdd ?_)
  by_cases he : esd.isEmpty = true
  rw [if_pos he]
  refine wpAny_bind (wpAny_dictEntries hoo hdo' ?_)
  refine wpAny_bind (wpAny_of_eq (a := PUnit.unit) ?hl ?_)
  case hl =>
    rw [← Array.forIn_toList]
    refine forIn_yield_id _ fun e he c => ?_
    obtain ⟨k, hkey, _⟩ := hko e (Array.mem_toList_iff.mp he)
    have nr := key_noref hkey
    split
    · rename_i a q; exact absurd q (nr a)
    · rfl
  rotate_left
  rw [if_neg he]
  all_goals
    refine wpAny_bind (wpAny_dictEntries hoo hdo' ?_)
    refine wpAny_bind (wpAny_dictEpoch hoo hdo' ?_)
    refine wpAny_bind ?_
    refine wpAny_forIn_list _
      (fun rest _ s' => ∃ h' i, s' = { s with heap := h' } ∧ rest = List.range' i (eso.size - i) ∧ i ≤ eso.size ∧ h'.DictOf (cK P w) d (merged kvs (more.take i)) ∧ h'.get? o = some oo ∧ Heap.SameBut d s.heap h')
      _ ?_ ?_ _ _ ⟨s.heap, 0, rfl, by simp [List.range_eq_range'], Nat.zero_le _, by simpa [merged] using hd, hoo, Heap.SameBut.refl _ _⟩
    · rintro x rest b s' ⟨h', i, rfl, hr, hi, hd', hoo', hs'⟩
      have hlt : i < eso.size := by
        rcases Nat.lt_or_ge i eso.size with h | h
        · exact h
        · rw [Nat.sub_eq_zero_of_le h] at hr; simp at hr
      obtain ⟨rfl, hrest⟩ : x = i ∧ rest = List.range' (i + 1) (eso.size - (i + 1)) := by
        have e : eso.size - i = (eso.size - (i + 1)) + 1 := by omega
        rw [e, List.range'_succ] at hr
        injection hr with h1 h2
        exact ⟨h1, h2⟩
      refine wpAny_bind (wpAny_dictEntries hoo' hdo' ?_)
      rw [Array.getElem?_eq_getElem hlt]
      obtain ⟨kv, hkv⟩ : ∃ kv, more[x]? = some kv := ⟨more[x]'(by rw [hlen]; exact hlt), List.getElem?_eq_getElem _⟩
      obtain ⟨k, v⟩ := kv
      obtain ⟨hkey, hval⟩ := hpo.get? (e := eso[x]) (by simp [hlt]) hkv
      obtain ⟨k', hkey', hhash⟩ := hko eso[x] (Array.getElem_mem hlt)
      obtain rfl : k' = k := (cK P w).inj _ _ _ hkey' hkey
      dsimp only
      rw [hhash, hval]
      have hmx : (merged kvs (more.take x)).length ≤ sizeLine := by
        have e1 := merged_length_le kvs (more.take x)
        have e2 : (more.take x).length ≤ more.length := by rw [List.length_take]; omega
        omega
      refine wpAny_bind (wpAny_holding ?_)
      rw [if_neg (by decide)]
      refine wpAny_dictPutZ (hsz := hmx) hkey hd' fun h'' hd'' hs'' => ?_
      have hoo'' : h''.get? o = some oo := (hs''.2 o (Ne.symm hdo)).trans hoo'
      refine wpAny_bind (wpAny_dictEpoch hoo'' hdo' ?_)
      rw [if_neg (by simp)]
      exact wpAny_pure ⟨h'', x + 1, rfl, hrest, hlt, by rw [merged_take_succ kvs more x (k', v) hkv]; exact hd'', hoo'', hs'.trans hs''⟩
    · rintro b s' ⟨h', i, rfl, hr, hi, hd', hoo', hs'⟩
      have hin : i = eso.size := by
        rcases Nat.lt_or_ge i eso.size with h | h
        · have e : eso.size - i = (eso.size - (i + 1)) + 1 := by omega
          rw [e, List.range'_succ] at hr; exact nomatch hr
        · exact Nat.le_antisymm hi h
      refine wpAny_pure (hQ h' ?_ ⟨oo, eso, epo, hoo', hco, hdo', hko, hpo, hno⟩ hs')
      rw [hin, ← hlen, List.take_length] at hd'; exact hd'
end
def tMerge2 (P : Program) (w : World) (ta tb : TE) : TE := fun σ H Q => ∀ D, H D = none → ta σ (upd H D (DicO P w D [])) fun x H1 => ∃ p kvs, x = .ref p ∧ D ≠ p ∧ H1 D = some (DicO P w D []) ∧ H1 p = some (DicO P w p kvs) ∧ kvs.length ≤ 1000 ∧
  tb σ (upd H1 D (DicO P w D (mergeL [] kvs))) fun y H2 => ∃ q more, y = .ref q ∧ D ≠ q ∧ H2 D = some (DicO P w D (mergeL [] kvs)) ∧ H2 q = some (DicO P w q more) ∧ more.length ≤ 1000 ∧ Q (.ref D) (upd H2 D (DicO P w D (mergeL (mergeL [] kvs) more)))
section
variable {X : Cx} {a b : Expr} {pos : Pos} {ta tb : TE}
theorem pe_merge2 (ha : PE X a ta) (hb : PE X b tb) : PE X (.Dict [none, none] [a, b] pos) (tMerge2 X.prog X.w ta tb) := ⟨fun pins s σ H Q I q => by
  rw [arm_eval_Dict]
  refine wpAny_bind (wpAny_standAt ?_)
  show wpAny _ _ (dictDisplay [(none, do let x ← eval a X.env; standAt pos; pure x), (none, do let x ← eval b X.env; standAt pos; pure x)]) _ _ _
  unfold dictDisplay
  simp only [List.forIn_cons, List.forIn_nil, List.isEmpty_nil, if_true, pure_bind, bind_assoc]
  refine wpAny_bind (wpAny_alloc ?_)
  have nD := I.hok.fresh (Nat.le_refl s.heap.objs.size)
  have I1 : Inv X pins σ (upd H s.heap.objs.size (DicO X.prog X.w s.heap.objs.size [])) { s with heap := s.heap.push { cls := .type "dict", data := .dict #[] }, toks := s.toks } :=
    I.laid (fun b u e => Heap.get?_push_of_some { cls := .type "dict", data := .dict #[] } e) (Nat.le_refl _) (by exact dz_empty (X := X) (H := H) s.heap I.big)
  refine wpAny_bind (wpAny_holding ?_)
  refine wpAny_bind (thn (ha.run pins _ σ _ _ I1 (q _ nD)) fun v s1 hv => ?_)
  refine wpAny_bind (wpAny_standAt (wpAny_pure ?_))
  obtain ⟨x, H1, I1, r1, p, kvs, rfl, hne, hD, hp, hk, q1⟩ := hv
  cases (show v = Value.ref p from r1)
  obtain ⟨_, na, va, ra, da⟩ := dz_of I1 hD
  obtain ⟨_, nb, vb, rb, db⟩ := dz_of I1 hp
  cases ra
  refine wpAny_bind (wpAny_onRaise (wpAny_tryCatch (wpAny_onRaise (wpAny_holding (wpAny_mergeZ hne nb da db (fun h' hm _ hs => ?_) (by rw [← rb.length, sizeLine_eq, List.length_nil]; omega))))))
  have hl := mergeL_len kvs []
  have I2 := d_write (t' := s1.toks) I1 (by rw [hD]; exact True.intro) hs (let ⟨o, _, _, ho, _⟩ := hm; ⟨o, ho⟩) (dz_ok (by rw [List.length_nil] at hl; rw [sizeLine_eq]; omega) na (mergeL_kv rb .nil) hm)
  refine wpAny_bind (wpAny_holding ?_)
  refine wpAny_bind (thn (hb.run pins _ σ _ _ I2 q1) fun v s2 hv => ?_)
  refine wpAny_bind (wpAny_standAt (wpAny_pure ?_))
  obtain ⟨y, H2, I3, r2, p2, more, rfl, hne2, hD2, hp2, hk2, q2⟩ := hv
  cases (show v = Value.ref p2 from r2)
  obtain ⟨_, nc, vc, rc, dc⟩ := dz_of I3 hD2
  obtain ⟨_, nd, vd, rd, dd⟩ := dz_of I3 hp2
  have hl2 := mergeL_len more (mergeL [] kvs)
  rw [List.length_nil] at hl
  refine wpAny_bind (wpAny_onRaise (wpAny_tryCatch (wpAny_onRaise (wpAny_holding (wpAny_mergeZ hne2 nd dc dd (fun h' hm _ hs => ?_) (by rw [← rc.length, ← rd.length, sizeLine_eq]; omega))))))
  exact wpAny_pure ⟨.ref s.heap.objs.size, _, d_write I3 (by rw [hD2]; exact True.intro) hs (let ⟨o, _, _, ho, _⟩ := hm; ⟨o, ho⟩) (dz_ok (by rw [sizeLine_eq]; omega) nc (mergeL_kv rd rc) hm), rfl, q2⟩⟩
/-- the reading over data -/
def dMerge2 (da db : DTE) : DTE := fun S R => da S fun x S1 => ∃ k es, x = .cell k ∧ S1.cell k = some (.dic es) ∧ es.length ≤ 1000 ∧
  db S1 fun y S2 => ∃ j fs, y = .cell j ∧ S2.cell j = some (.dic fs) ∧ fs.length ≤ 1000 ∧ R (.cell S2.μ.length) (S2.new (.dic (mergeG (mergeG [] es) fs)))
theorem de_merge2 {da db : DTE} (ha : DE X a da) (hb : DE X b db) : DE X (.Dict [none, none] [a, b] pos) (dMerge2 da db) := by
  obtain ⟨ta, a1, a2⟩ := ha.ex
  obtain ⟨tb, b1, b2⟩ := hb.ex
  refine ⟨_, pe_merge2 a1 b1, fun B S σ ts H R Q o hd kk => ?_⟩
  obtain ⟨F, α, o⟩ := o
  intro D hD
  have hα : D ∉ α := fun q => o.an D q hD
  have hF := o.freeF hD
  have hB := o.freshB hD
  have o1 := o.free (o := DicO X.prog X.w D []) hα hF hB
  refine a2 _ S σ ts _ _ _ o1.base.ok hd fun x dx S1 H1 q1 w1 => ?_
  obtain ⟨F1, α1, w1⟩ := w1
  obtain ⟨d1, d2, d3⟩ := w1.bc D _ upd_same hF hα
  obtain ⟨k, es, rfl, e1, l1, q1⟩ := q1
  obtain ⟨p, ks, rfl, g1, g2, g3, g4⟩ := w1.cellD w1.top e1
  refine ⟨p, ks, rfl, fun e => d3 (e ▸ List.mem_of_getElem? g1), d1, g3, by rw [Paired.length g4]; exact l1, ?_⟩
  have o2 := ((o1.rebase w1).sub fun p hp => List.mem_cons_of_mem _ hp).free (o := DicO X.prog X.w D (mergeL [] ks)) d3 d2 hB
  refine b2 _ S1 σ ts _ _ _ o2.base.ok q1 fun y dy S2 H2 q2 w2 => ?_
  obtain ⟨F2, α2, w2⟩ := w2
  obtain ⟨f1, f2, f3⟩ := w2.bc D _ upd_same d2 d3
  obtain ⟨j, fs, rfl, e2, l2, q2⟩ := q2
  obtain ⟨p2, ls, rfl, i1, i2, i3, i4⟩ := w2.cellD w2.top e2
  refine ⟨p2, ls, rfl, fun e => f3 (e ▸ List.mem_of_getElem? i1), f1, i3, by rw [Paired.length i4]; exact l2, ?_⟩
  have g5 : Paired (KVOk X.prog X.w X.K F2 α2) ks es := paired_up (fun _ _ q => ⟨q.1, w2.known q.2⟩) g4
  have o3 := (o2.rebase w2).sub (ts' := ts) fun p hp => List.mem_cons_of_mem _ hp
  have o4 := o3.free (o := DicO X.prog X.w D (mergeL (mergeL [] ks) ls)) f3 f2 hB
  have o5 := o4.adopt (o := .dic (mergeG (mergeG [] es) fs)) f3 f2 (by rw [upd_same]; exact fun z => by cases z) hB ⟨_, upd_same, paired_up (fun _ _ q => ⟨q.1, q.2.up (Ex.refl _)⟩) (mergeG_ok i4 (mergeG_ok g5 .nil))⟩
  exact kk _ _ _ _ q2 (o5.add (d := .cell S2.μ.length) ⟨D, by rw [← o4.al, List.getElem?_append_right (Nat.le_refl _), Nat.sub_self]; rfl, rfl⟩).ok
end
end DL

set_option Elab.async false
set_option linter.all false
set_option maxRecDepth 100000
set_option autoImplicit false
set_option maxHeartbeats 2000000
namespace DL
open PySem PySem.Spec L2 PyProof.Rows

/-! ## zip of two tuples that never change, range with a step, x //= e, four names -/
def zipD (ds es : List DV) : List DY := ds.zipWith DY.two es
theorem zipD_len (ds es : List DV) : (zipD ds es).length = min ds.length es.length := by unfold zipD; rw [List.length_zipWith]
theorem zipD_get {ds es : List DV} {i : Nat} {d e : DV} (h : ds[i]? = some d) (g : es[i]? = some e) : (zipD ds es)[i]? = some (.two d e) := by
  unfold zipD
  rw [List.getElem?_zipWith, h, g]
theorem get_zipD {ds es : List DV} {i : Nat} {y : DY} (h : (zipD ds es)[i]? = some y) : ∃ d e, ds[i]? = some d ∧ es[i]? = some e ∧ y = .two d e := by
  unfold zipD at h
  rw [List.getElem?_zipWith] at h
  cases h1 : ds[i]? with
  | none => rw [h1] at h; cases h
  | some d => cases h2 : es[i]? with
    | none => rw [h1, h2] at h; cases h
    | some e => rw [h1, h2] at h; exact ⟨d, e, rfl, rfl, by cases h; rfl⟩
def kZip (RI : List DY → (DSt → Prop) → DSt → Prop) : List DV → DSt → Prop := fun ds S1 => ∃ p q es fs, ds = [.imm p, .imm q] ∧ S1.seq (.imm p) = some (false, es) ∧ S1.seq (.imm q) = some (false, fs) ∧ RI (zipD es fs) (fun _ => True) S1
def diZip (da : DTA) : DTI := fun S R => da S (kZip R)
section
variable {P : Program} {w : World} {K : PySem.W.Frag}
theorem snd_zip {ta : TA} {da : DTA} (ha : SndA P w K ta da) : SndI P w K (RZ.iZipA K ta) (diZip da) := fun B S σ ts H R Q h hd k =>
  ha B S σ ts H _ _ h hd fun xs ds S1 H1 hl q o => by
    obtain ⟨p, q, es, fs, rfl, e1, e2, q'⟩ := q
    match xs, hl with
    | [x, z], _ =>
      have s1 : ∀ S2 : DSt, S2.seq (.imm p) = some (false, es) := fun S2 => by rw [← e1]; cases p <;> rfl
      have s2 : ∀ S2 : DSt, S2.seq (.imm q) = some (false, fs) := fun S2 => by rw [← e2]; cases q <;> rfl
      obtain ⟨F, α, o1⟩ := o
      obtain ⟨a, xs, rfl, hq, hp⟩ := o1.seq (o1.tm (x, .imm p) (by simp)) e1
      obtain ⟨b, ys, rfl, hq2, hp2⟩ := o1.seq (o1.tm (z, .imm q) (by simp)) e2
      refine ⟨a, b, xs, ys, rfl, .inr ⟨hq, hq2, k (zipD es fs) (fun _ => True) S1 H1 (RZ.ItzT K a b) (fun H2 => ∃ us vs, SqT K H2 a us ∧ SqT K H2 b vs ∧ us.length = es.length ∧ vs.length = fs.length)
        (fun i H2 v H3 => ∃ T x y, v = .ref T ∧ H2 T = none ∧ H3 = upd H2 T (.tup [x, y]) ∧ (∀ us, SqT K H2 a us → us[i]? = some x) ∧ ∀ us, SqT K H2 b us → us[i]? = some y) [(.ref a, .imm p), (.ref b, .imm q)] q' (o1.sub fun z hz => by simpa using hz).ok
        ⟨fun i H2 hi ⟨us, vs, u1, u2, u3, u4⟩ => ?_, fun H2 ⟨us, vs, u1, u2, u3, u4⟩ => ⟨us, vs, u1, u2, by rw [u3, u4, zipD_len]; omega⟩, fun i H2 v H3 hi _ y => y⟩ (fun B2 S2 σ2 H2 vs hv _ ⟨F2, α2, o2⟩ => ?_) (fun B2 i S2 σ2 H2 v H3 vs hi hv _ ⟨F2, α2, o2⟩ y => ?_)⟩⟩
      · rw [zipD_len] at hi
        exact ⟨us, vs, us[i]'(by omega), vs[i]'(by omega), u1, u2, List.getElem?_eq_getElem _, List.getElem?_eq_getElem _⟩
      · obtain ⟨a', us, e3, e4, e5⟩ := o2.seq (o2.tm (.ref a, .imm p) (hv _ (by simp))) (s1 S2)
        obtain ⟨b', us', f3, f4, f5⟩ := o2.seq (o2.tm (.ref b, .imm q) (hv _ (by simp))) (s2 S2)
        cases e3
        cases f3
        exact ⟨us, us', e4, f4, Paired.length e5, Paired.length f5⟩
      · obtain ⟨a', us, e3, e4, e5⟩ := o2.seq (o2.tm (.ref a, .imm p) (hv _ (by simp))) (s1 S2)
        obtain ⟨b', us', f3, f4, f5⟩ := o2.seq (o2.tm (.ref b, .imm q) (hv _ (by simp))) (s2 S2)
        cases e3
        cases f3
        obtain ⟨T, x, y, rfl, hT, rfl, hx, hy⟩ := y
        obtain ⟨d, d1, d2⟩ := pget i e5 (hx us e4)
        obtain ⟨e, g1, g2⟩ := pget i f5 (hy us' f4)
        have hFT := o2.freeF hT
        have hαT : T ∉ α2 := fun z => o2.an T z hT
        exact ⟨_, zipD_get d1 g1, F2, α2, o2.free hαT hFT (o2.freshB hT), T, x, y, rfl, upd_same, d2, g2⟩
end
def rangeC (lo c : Int) (n : Nat) : List DY := (List.range n).map fun i => .one (dI (lo + (i : Nat) * c))
theorem get_rangeC {lo c : Int} {n i : Nat} (h : i < n) : (rangeC lo c n)[i]? = some (.one (dI (lo + (i : Nat) * c))) := by
  unfold rangeC
  rw [List.getElem?_map, List.getElem?_range h]
  rfl
theorem rangeC_len (lo c : Int) (n : Nat) : (rangeC lo c n).length = n := by unfold rangeC; rw [List.length_map, List.length_range]
def kR3 (RI : List DY → (DSt → Prop) → DSt → Prop) : List DV → DSt → Prop := fun ds S1 => ∃ i j c n, ds = [dI i, dI j, dI c] ∧ RgC i j c n ∧ RI (rangeC i c n) (fun _ => True) S1
def diRange3 (da : DTA) : DTI := fun S R => da S (kR3 R)
section
variable {P : Program} {w : World} {K : PySem.W.Frag}
theorem snd_range3 {ta : TA} {da : DTA} (ha : SndA P w K ta da) : SndI P w K (iRng3 ta) (diRange3 da) := fun B S σ ts H R Q h hd k =>
  ha B S σ ts H _ _ h hd fun xs ds S1 H1 hl q o => by
    obtain ⟨i, j, c, n, rfl, hr, q⟩ := q
    match xs, hl with
    | [x, y, z], _ =>
      obtain ⟨F, α, o1⟩ := o
      have hx : x = V.int i := vok_int (o1.tm (x, dI i) (by simp))
      have hy : y = V.int j := vok_int (o1.tm (y, dI j) (by simp))
      have hz : z = V.int c := vok_int (o1.tm (z, dI c) (by simp))
      refine ⟨i, j, c, n, by rw [hx, hy, hz], hr, k (rangeC i c n) (fun _ => True) S1 H1 (Itc i c n) _ _ [] q (o1.sub memA).ok (by rw [rangeC_len]; exact walk_rangeC) (fun _ _ _ _ _ _ _ _ => trivial) fun B2 i' S2 σ2 H2 v H3 vs hi hv hs2 ⟨F2, α2, o2⟩ y => ?_⟩
      obtain ⟨rfl, rfl⟩ := y
      rw [rangeC_len] at hi
      exact ⟨_, get_rangeC hi, F2, α2, o2, Rp.int _⟩
end
def dgFour (i j k l : Nat) : DTG := fun y S R => ∃ p q r t, y = .one (.imm (.tuple [p, q, r, t])) ∧ R ((((S.set i (.imm p)).set j (.imm q)).set k (.imm r)).set l (.imm t))
section
variable {P : Program} {w : World} {K : PySem.W.Frag}
theorem snd_four (i j m l : Nat) : SndG P w K [i, j, m, l] (gTup K 4 (gCons (gName i) (gCons (gName j) (gCons (gName m) (gCons (gName l) gNil))))) (dgFour i j m l) := fun B S σ ts H v y R Q h hd k => by
  obtain ⟨F, α, h, hy⟩ := h
  obtain ⟨p, q, r, t, rfl, hd⟩ := hd
  have wp : ∀ {a b c d : V}, ∀ vs : List Nat, (∀ z ∈ [i, j, m, l], z ∈ vs) → wipe ((((σ.set i (some a)).set j (some b)).set m (some c)).set l (some d)) vs = wipe σ vs := fun vs hj => by
    rw [wipe_set _ _ _ _ (hj l (by simp)), wipe_set _ _ _ _ (hj m (by simp)), wipe_set _ _ _ _ (hj j (by simp)), wipe_set _ _ _ _ (hj i (by simp))]
  obtain ⟨a, ys, rfl, tz, rp⟩ := rp_tup (α := α) hy
  cases rp with
  | cons r1 rp => cases rp with
    | cons r2 rp => cases rp with
      | cons r3 rp => cases rp with
        | cons r4 rp => cases rp with
          | nil =>
            rename_i x1 x2 x3 x4
            refine ⟨a, [x1, x2, x3, x4], rfl, (tz.up h.fh).t, rfl, x1, [x2, x3, x4], rfl, x2, [x3, x4], rfl, x3, [x4], rfl, x4, [], rfl, rfl, ?_⟩
            exact k _ _ H hd rfl wp ((((h.setSlot (v := x1) (d := .imm p) r1).setSlot (v := x2) (d := .imm q) r2).setSlot (v := x3) (d := .imm r) r3).setSlot (v := x4) (d := .imm t) r4).ok
end
section
variable {X : Cx} {tg e : Expr} {de : DTE} {da : DTA} {p pos : Pos}
theorem di_zip {a b : Expr} {elts : List Expr} {kk : Nat} {tpos : Pos} (hg : Gl X "zip") (hm : X.mg "zip" = none) (ha : DA X [a, b] da)
    (hs : starEach [a, b] X.env = (false, eval a X.env) :: starEach [b] X.env := by rfl) (hpl : (backTo pos (starEach [b] X.env)).any (·.1) = false := by rfl) :
    DI X (.Tuple elts kk tpos) (.Call (.Name "zip" p) [a, b] [] pos) (diZip da) := by
  obtain ⟨t, a1, a2⟩ := ha.ex
  exact ⟨_, RZ.pi_zipA hg hm a1 hs hpl, snd_zip a2⟩
theorem di_range3 {a b c : Expr} (hg : Gl X "range") (hm : X.mg "range" = none) (ha : DA X [a, b, c] da)
    (hs : starEach [a, b, c] X.env = (false, eval a X.env) :: starEach [b, c] X.env := by rfl) (hpl : (backTo pos (starEach [b, c] X.env)).any (·.1) = false := by rfl) :
    DI X tg (.Call (.Name "range" p) [a, b, c] [] pos) (diRange3 da) := by
  obtain ⟨t, a1, a2⟩ := ha.ex
  exact ⟨_, pi_range3 hg hm a1 hs hpl, snd_range3 a2⟩
theorem dg_four {i j m l : Nat} {x y z u : Str} {p1 p2 p3 p4 : Pos} {kk : Nat} (hc : X.calm = true) (hN : X.N.Nodup) (hi : X.N[i]? = some x) (hj : X.N[j]? = some y) (hm : X.N[m]? = some z) (hl : X.N[l]? = some u)
    (hx : Loc X.env.scope x) (hy : Loc X.env.scope y) (hz : Loc X.env.scope z) (hu : Loc X.env.scope u)
    (f1 : X.fn x = true ∨ X.env.scope.names.lookup x = some .local := by first | exact .inl rfl | exact .inr rfl | assumption) (f2 : X.fn y = true ∨ X.env.scope.names.lookup y = some .local := by first | exact .inl rfl | exact .inr rfl | assumption)
    (f3 : X.fn z = true ∨ X.env.scope.names.lookup z = some .local := by first | exact .inl rfl | exact .inr rfl | assumption) (f4 : X.fn u = true ∨ X.env.scope.names.lookup u = some .local := by first | exact .inl rfl | exact .inr rfl | assumption) :
    DG X (.Tuple [.Name x p1, .Name y p2, .Name z p3, .Name u p4] kk pos) [i, j, m, l] (dgFour i j m l) :=
  ⟨_, pg_tup hc (pgs_cons (pg_name hN hi hx f1) (pgs_cons (pg_name hN hj hy f2) (pgs_cons (pg_name hN hm hz f3) (pgs_cons (pg_name hN hl hu f4) pgs_nil)))), snd_four i j m l⟩
theorem ds_augFdiv {i : Nat} {x : Str} {pos' : Pos} (hN : X.N.Nodup) (hi : X.N[i]? = some x) (hx : Loc X.env.scope x) (he : DE X e de) (hf : X.fn x = true ∨ X.env.scope.names.lookup x = some .local := by first | exact .inl rfl | exact .inr rfl | assumption) :
    DS X (.AugAssign (.Name x pos') .FloorDiv e pos) (dAug i (gII CDiv fun i j => dI (i / j)) de) := by
  obtain ⟨t, a1, a2⟩ := he.ex
  refine ⟨_, ps_aug hN hi hx a1 (ti := rI CDiv fun i j => .int (i / j)) iop_fdiv hf, fun B S σ ts H D G h hd l => ?_⟩
  unfold dAug at hd
  cases e1 : S.get i with
  | none => rw [e1] at hd; exact hd.elim
  | some d =>
    rw [e1] at hd
    obtain ⟨F, α, h⟩ := h
    obtain ⟨v, h1, h2⟩ := h.sl i d (get_slot e1)
    refine ⟨v, h1, a2 B S σ _ H _ _ (h.add h2).ok hd fun y dy S1 H1 q o => ?_⟩
    unfold gII at q
    split at q
    · rename_i a b ea eb
      obtain ⟨c, q⟩ := q
      rw [int?_eq ea, int?_eq eb] at o
      obtain ⟨F', α', o⟩ := o
      exact ⟨a, b, vok_int o.top2, vok_int o.top, c, l.nx _ _ H1 q ((o.sub mem2).setSlot vint).ok⟩
    · exact q.elim
end
end DL

set_option Elab.async false
set_option linter.all false
set_option maxRecDepth 100000
set_option autoImplicit false
set_option maxHeartbeats 2000000
namespace DL
open PySem PySem.Spec L2 PyProof.Rows

/-! ## for k, v in d.items(): the cell keeps its entries while it is locked -/
def LckN (P : Program) (w : World) (a : Addr) (ob : Obj) (n : Nat) (H : Hp) : Prop := ∃ ys : List (Leaf × V), H a = some (LckO P w ob ys a) ∧ ys.length = n
def ItKI (P : Program) (w : World) (a : Addr) (ob : Obj) (n : Nat) : It :=
  ⟨fun i H => LckN P w a ob n H ∧ i < n, fun i H x H' => ∃ T l v, (∀ ys, H a = some (LckO P w ob ys a) → ys[i]? = some (l, v)) ∧ x = .ref T ∧ H T = none ∧ H' = upd H T (.tup [kvV l, v]), fun i H => LckN P w a ob n H ∧ n ≤ i⟩
theorem kvV_inj {l m : Leaf} (e : kvV l = kvV m) : l = m := by
  cases l <;> cases m <;> first | rfl | (cases e; rfl) | cases e
theorem lck_same {P : Program} {w : World} {X : Cx} {pins : List (Addr × Obj)} {σ : L2.St} {H : Hp} {s : Shared} {a : Addr} {ob : Obj} {ys zs : List (Leaf × V)} {i : Nat} {p : Leaf × V} (hp : X.prog = P) (hw : X.w = w) (I : Inv X pins σ H s) (hy : H a = some (LckO P w ob ys a)) (hz : H a = some (LckO P w ob zs a)) (e : ys[i]? = some p) : zs[i]? = some p := by
  subst hp hw
  obtain ⟨ho, _, _, vs, rel, dd⟩ := lck_of I hy
  obtain ⟨_, _, _, vs', rel', dd'⟩ := lck_of I hz
  obtain ⟨es, ep, q1, q2, q3, q4⟩ := lck_raw2 (X := X) ho rel dd
  obtain ⟨es', ep', q1', q2', q3', q4'⟩ := lck_raw2 (X := X) ho rel' dd'
  cases q1.symm.trans q1'
  have hi := (List.getElem?_eq_some_iff.mp e).1
  have hi2 : i < zs.length := by omega
  obtain ⟨l, v⟩ := p
  obtain ⟨⟨m, u⟩, e2⟩ : ∃ q, zs[i]? = some q := ⟨_, List.getElem?_eq_getElem hi2⟩
  obtain ⟨a1, a2⟩ := q4 i (by omega) l v e
  obtain ⟨b1, b2⟩ := q4' i (by omega) m u e2
  rw [e2, kvV_inj (b1.inj a1), b2.inj a2]
theorem turn_KI {P : Program} {w : World} {K : PySem.W.Frag} {elts : List Expr} {kk : Nat} {tpos : Pos} {a : Addr} {ob : Obj} {n : Nat} (it : Addr) {es : Array DictEntry} {ep : Nat} (hd : ob.data = .dict es ep) (hne : a ≠ it) :
    Turn P w K (.Tuple elts kk tpos) (ItKI P w a ob n) [it] it (fun i h => ∃ ok ov, IsItemIter h it a i es.size ep ok ov) where
  mem := (turn_itz (P := P) (w := w) (K := K) (elts := elts) (kk := kk) (tpos := tpos) (a := a) (kvs := []) it hd hne).mem
  obj := (turn_itz (P := P) (w := w) (K := K) (elts := elts) (kk := kk) (tpos := tpos) (a := a) (kvs := []) it hd hne).obj
  keep := (turn_itz (P := P) (w := w) (K := K) (elts := elts) (kk := kk) (tpos := tpos) (a := a) (kvs := []) it hd hne).keep
  item := fun X e1 e2 e3 hc i pins s σ H E I hf st ⟨⟨ys, hH, hy⟩, hi⟩ => by
    refine thnF ((turn_itz (P := P) (w := w) (K := K) (elts := elts) (kk := kk) (tpos := tpos) (kvs := ys) it hd hne).item X e1 e2 e3 hc i pins s σ H (fun _ _ => False) I hf st ⟨hH, by rw [hy]; exact hi⟩) fun r s1 ⟨u, er, h2⟩ => ⟨u, er, thnF h2 fun _ s2 hx => ?_⟩
    obtain ⟨x, H', I', rx, ⟨T, l, v, g1, g2, g3, g4⟩, rest⟩ := hx
    exact ⟨x, H', I', rx, ⟨T, l, v, fun zs hz => lck_same e1 e2 I hH hz g1, g2, g3, g4⟩, rest⟩
  done := fun X e1 e2 e3 hc i pins s σ H E I hf st ⟨⟨ys, hH, hy⟩, hi⟩ =>
    (turn_itz (P := P) (w := w) (K := K) (elts := elts) (kk := kk) (tpos := tpos) (kvs := ys) it hd hne).done X e1 e2 e3 hc i pins s σ H E I hf st ⟨hH, by rw [hy]; exact hi⟩
  self := (turn_itz (P := P) (w := w) (K := K) (elts := elts) (kk := kk) (tpos := tpos) (a := a) (kvs := []) it hd hne).self
def iItemsK (P : Program) (w : World) (te : TE) : TI := fun σ H R => te σ H fun x H1 => ∃ a kvs, x = .ref a ∧ H1 a = some (DicO P w a kvs) ∧ ∀ ob, R (ItKI P w a ob kvs.length) (upd H1 a (LckO P w ob kvs a))
section
variable {X : Cx}
theorem pi_itemsK {elts : List Expr} {kk : Nat} {tpos apos cpos : Pos} {e : Expr} {te : TE} (he : PE X e te) (hbase : attributeBase e "items" X.env (eval e X.env) = eval e X.env := by rfl) (hline : (apos.endLine == cpos.line) = true := by rfl) :
    PI X (.Tuple elts kk tpos) (.Call (.Attribute e "items" apos) [] [] cpos) (iItemsK X.prog X.w te) := ⟨fun pins s σ H R I h => by
  refine wpAny_Call_method (T := "dict") (id := "dict.items") hbase rfl hline PySem.F.plainAttrs_dict PySem.F.slot_dict_items PySem.F.type_dict_items (thn (he.run pins s σ H _ I h) fun u s1 hx => ?_)
  obtain ⟨x, H1, I1, rx, d, kvs, rfl, hH, q⟩ := hx
  cases (show u = Value.ref d from rx)
  obtain ⟨z, hne, vs, rel, dd⟩ := dz_of I1 hH
  have he' : ∃ o, s1.heap.get? d = some o := let ⟨o, _, _, ho, _⟩ := dd; ⟨o, ho⟩
  obtain ⟨ob, ho⟩ := he'
  obtain ⟨es, ep, q1, q2, q3, q4⟩ := lck_raw2 (X := X) ho rel dd
  have I2 : Inv X pins σ (upd H1 d (LckO X.prog X.w ob kvs d)) { s1 with heap := s1.heap, toks := s1.toks } :=
    I1.write (x := d) (e := d) (by rw [hH]; exact True.intro) (.inl rfl) (fun _ _ _ q => q) ⟨ob, ho⟩ (lck_ok ho z hne rel dd)
  have hdl : d < s1.heap.objs.size := Heap.lt_size ho
  let view : Obj := { cls := .type "dict_items", data := .fields #[.ref d] }
  have I3 : Inv X pins σ (upd H1 d (LckO X.prog X.w ob kvs d)) { s1 with heap := s1.heap.push view } := I2.kept (t' := s1.toks) fun b o e => Heap.get?_push_of_some _ e
  have fin : wpAny (model X.prog X.w) X.A (pyIter (.ref s1.heap.objs.size)) (PIE X pins σ (.Tuple elts kk tpos) R) X.xe { s1 with heap := s1.heap.push view } := by
    refine wpAny_pyIter_items_raw (v := s1.heap.objs.size) (d := d) ⟨_, Heap.get?_push_size _ rfl, rfl, rfl⟩ (q2.push _) (pi_one (tk := s1.toks) I3 _ (turn_KI _ q1 ?_) ⟨.none, .none, Heap.get?_push_size _ rfl⟩ (q ob))
    exact Nat.ne_of_lt (Nat.lt_of_lt_of_le hdl (by rw [Heap.size_push]; exact Nat.le_succ _))
  refine ⟨dd.typeIs, dd.mapOf.noDict, ?_⟩
  show wpAny _ _ (callWith cpos (.builtin "dict.items") [.ref d] [] []) _ X.xe s1
  exact method_meetsIn PySem.F.slot_dict_items PySem.F.entry_dict_items rfl (PySem.evalArgs_none ⟨rfl, dd.typeIs, PySem.F.args_dict_items_1 _, _, meets_dict_items_raw d hne, ⟨⟨es, ep, q2⟩, fin⟩⟩)⟩
end
def kItemsK (RI : List DY → (DSt → Prop) → DSt → Prop) : DV → DSt → Prop := fun d S1 => ∃ k es, d = .cell k ∧ S1.cell k = some (.dic es) ∧
  ∀ ob, RI (es.map fun p => DY.two (.imm (kvD p.1)) p.2) (fun S' => S'.cell k = some (.lck ob es)) (S1.put k (.lck ob es))
def diItemsK (de : DTE) : DTI := fun S R => de S (kItemsK R)
section
variable {P : Program} {w : World} {K : PySem.W.Frag}
theorem snd_itemsK {te : TE} {de : DTE} (he : SndE P w K te de) : SndI P w K (iItemsK P w te) (diItemsK de) := fun B S σ ts H R Q h hd kk =>
  he B S σ ts H _ _ h hd fun x dx S1 H1 q o => by
    obtain ⟨k, es, rfl, e1, q⟩ := q
    obtain ⟨F, α, o⟩ := o
    obtain ⟨a, xs, rfl, g1, g2, g3, g4⟩ := o.cellD o.top e1
    refine ⟨a, xs, rfl, g3, fun ob => ?_⟩
    have hlen : xs.length = es.length := Paired.length g4
    have o2 := o.cellPut (o := LckO P w ob xs a) (u := .lck ob es) g1 g2 ⟨xs, upd_same, g4⟩
    have look : ∀ (B3 : Bs) (S3 : DSt) (σ3 : L2.St) (H3 F3 : Hp) (α3 : List Addr) (vs : List (V × DV)), (∀ p ∈ [(V.ref a, DV.cell k)], p ∈ vs) → S3.cell k = some (.lck ob es) → StAt P w K B3 S3 σ3 vs H3 F3 α3 → ∃ ys, H3 a = some (LckO P w ob ys a) ∧ Paired (KVOk P w K F3 α3) ys es := fun B3 S3 σ3 H3 F3 α3 vs hm hs z => by
      obtain ⟨b, ys, e, _, _, e3, e4⟩ := z.cellK (z.tm (V.ref a, DV.cell k) (hm _ (by simp))) hs
      cases e
      exact ⟨ys, e3, e4⟩
    refine kk _ _ _ _ (ItKI P w a ob xs.length) (LckN P w a ob xs.length) (fun i H2 x H3 => ∃ T l v, (∀ ys, H2 a = some (LckO P w ob ys a) → ys[i]? = some (l, v)) ∧ x = .ref T ∧ H2 T = none ∧ H3 = upd H2 T (.tup [kvV l, v])) [(.ref a, .cell k)] (q ob) (o2.sub fun z hz => by simpa using hz).ok ?_ ?_ ?_
    · exact ⟨fun i H2 hi hG => ⟨hG, by rw [List.length_map] at hi; omega⟩, fun H2 hG => ⟨hG, by rw [List.length_map]; omega⟩, fun i H2 v H3 hi _ y => y⟩
    · exact fun B2 S2 σ2 H2 vs hv hs ⟨F2, α2, z⟩ => let ⟨ys, y1, y2⟩ := look B2 S2 σ2 H2 F2 α2 vs hv hs z; ⟨ys, y1, by rw [Paired.length y2, hlen]⟩
    · rintro B2 i S2 σ2 H2 v H3 vs hi hv hs ⟨F2, α2, z⟩ ⟨T, l, u, hlu, rfl, hT, rfl⟩
      obtain ⟨zs, z1, z2⟩ := look B2 S2 σ2 H2 F2 α2 vs hv hs z
      obtain ⟨⟨l', d⟩, hd, hkv⟩ := pget i z2 (hlu zs z1)
      have el : l = l' := hkv.1
      subst el
      have hFT := z.freeF hT
      have hαT : T ∉ α2 := fun y => z.an T y hT
      exact ⟨.two (.imm (kvD l)) d, by rw [List.getElem?_map, hd]; rfl, F2, α2, z.free hαT hFT (z.freshB hT), T, kvV l, u, rfl, upd_same, kvD_rp (α := α2) l, hkv.2⟩
theorem di_itemsK {X : Cx} {e : Expr} {de : DTE} {elts : List Expr} {kk : Nat} {tpos apos cpos : Pos} (he : DE X e de) (hbase : attributeBase e "items" X.env (eval e X.env) = eval e X.env := by rfl) (hline : (apos.endLine == cpos.line) = true := by rfl) :
    DI X (.Tuple elts kk tpos) (.Call (.Attribute e "items" apos) [] [] cpos) (diItemsK de) := by
  obtain ⟨t, a1, a2⟩ := he.ex
  exact ⟨_, pi_itemsK a1 hbase hline, snd_itemsK a2⟩
end
end DL

set_option Elab.async false
set_option linter.all false
set_option maxRecDepth 100000
set_option autoImplicit false
set_option maxHeartbeats 2000000
namespace DL
open PySem PySem.Spec L2 PyProof.Rows

/-! ## *e among the arguments of a call or the items of a display -/
def kStar (da : DTA) (R : List DV → DSt → Prop) : DV → DSt → Prop := fun d S1 => ∃ b es, S1.seq d = some (b, es) ∧ da S1 fun ds S2 => R (es ++ ds) S2
def dStar (de : DTE) (da : DTA) : DTA := fun S R => de S (kStar da R)
theorem pair_zip {α β : Type} {r : α → β → Prop} : ∀ {xs : List α} {es : List β}, Paired r xs es → ∀ p ∈ xs.zip es, r p.1 p.2
  | [], [], _, p, h => by simp at h
  | _ :: _, _ :: _, .cons a t, p, h => by
    rw [List.zip_cons_cons] at h
    rcases List.mem_cons.mp h with e | h
    · rw [e]; exact a
    · exact pair_zip t p h
section
variable {P : Program} {w : World} {K : PySem.W.Frag}
theorem snd_star {te : TE} {de : DTE} {ta : TA} {da : DTA} (he : SndE P w K te de) (ha : SndA P w K ta da) : SndA P w K (StX.tStar K te ta) (dStar de da) := fun B S σ ts H R Q h hd k =>
  he B S σ ts H _ _ h hd fun x d S1 H1 q o => by
    obtain ⟨b, es, e1, q⟩ := q
    obtain ⟨F, α, o⟩ := o
    obtain ⟨a, xs, rfl, hq, hp⟩ := o.seq o.top e1
    have hl : xs.length = es.length := Paired.length hp
    have otm : ∀ p ∈ xs.zip es ++ ts, VOk P w K F α p.1 p.2 := fun p hp2 => (List.mem_append.mp hp2).elim (pair_zip hp p) fun z => o.tm p (List.mem_cons_of_mem _ z)
    have o2 : StAt P w K B S1 σ (xs.zip es ++ ts) H1 F α := { o with tm := otm }
    refine ⟨a, xs, rfl, by cases b <;> first | exact .inl hq | exact .inr hq, ha B S1 σ _ H1 _ _ o2.ok q fun vs ds S2 H2 hl2 q2 o3 => ?_⟩
    obtain ⟨F2, α2, o3⟩ := o3
    refine k (xs ++ vs) (es ++ ds) S2 H2 (by rw [List.length_append, List.length_append, hl, hl2]) q2 (o3.sub fun p hp2 => ?_).ok
    rw [List.zip_append hl] at hp2
    rcases List.mem_append.mp hp2 with z | z
    · rcases List.mem_append.mp z with z | z
      · exact List.mem_append_right _ (List.mem_append_left _ z)
      · exact List.mem_append_left _ z
    · exact List.mem_append_right _ (List.mem_append_right _ z)
end
theorem da_star {X : Cx} {e : Expr} {es : List Expr} {de : DTE} {dr : DTA} {p : Pos} (ha : DE X e de) (hr : DA X es dr) (hs : starEach (.Starred e p :: es) X.env = (true, eval e X.env) :: starEach es X.env := by rfl) : DA X (.Starred e p :: es) (dStar de dr) := by
  obtain ⟨ta, a1, a2⟩ := ha.ex
  obtain ⟨tr, b1, b2⟩ := hr.ex
  exact ⟨_, StX.pa_star a1 b1 hs, snd_star a2 b2⟩
section
variable {S : DSt} {de : DTE} {da : DTA} {R : List DV → DSt → Prop}
theorem r_star (h : de S (kStar da R)) : dStar de da S R := h
theorem r_kStar {d : DV} {b : Bool} {es : List DV} (e : S.seq d = some (b, es)) (q : da S fun ds S2 => R (es ++ ds) S2) : kStar da R d S := ⟨b, es, e, q⟩
end
end DL

set_option Elab.async false
set_option linter.all false
set_option maxRecDepth 100000
set_option autoImplicit false
set_option maxHeartbeats 2000000
namespace DL
open PySem PySem.Spec L2 PyProof.Rows

/-! ## sorted(d), the keys whole numbers -/
def inK (ns : List Int) : List Key := ns.map Sum.inl
section
variable {P : Program} {w : World}
theorem kk_is {i : Int} {u : Value} (h : (cK P w).is (.num i) u = true) : (mixKind P w).is (.inl i) u = true := by
  cases u with
  | int j t =>
    have e : j = i := of_decide_eq_true h
    subst e
    exact decide_eq_true rfl
  | _ => exact absurd h Bool.false_ne_true
def lfB (vs : List (Leaf × Value)) (ns : List Int) : List (Key × Value) := List.zip (ns.map Sum.inl) (vs.map (·.2))
theorem lf_back : ∀ {vs : List (Leaf × Value)} {ns : List Int} {es : List DictEntry}, vs.map (·.1) = ns.map Leaf.num → Pairs (cK P w) es vs → Pairs (mixKind P w) es (lfB vs ns)
  | [], [], _, _, h => by cases h; exact .nil
  | (l, v) :: vs, n :: ns, _, e, h => by
    injection e with e1 e2
    dsimp only at e1
    subst e1
    cases h with
    | cons h1 h2 h3 => exact .cons (kk_is h1) h2 (lf_back e2 h3)
  | [], _ :: _, _, e, _ => by cases e
  | _ :: _, [], _, e, _ => by cases e
theorem lfB_keys : ∀ {vs : List (Leaf × Value)} {ns : List Int}, vs.map (·.1) = ns.map Leaf.num → (lfB vs ns).map (·.1) = ns.map Sum.inl
  | [], [], _ => rfl
  | (l, v) :: vs, n :: ns, e => by
    injection e with e1 e2
    show Sum.inl n :: (lfB vs ns).map (·.1) = _
    rw [lfB_keys e2]
    rfl
  | [], _ :: _, e => by cases e
  | _ :: _, [], e => by cases e
theorem nodup_num {ns : List Int} (h : (ns.map Leaf.num).Nodup) : (ns.map (Sum.inl : Int → Key)).Nodup := by
  unfold List.Nodup at h ⊢
  rw [List.pairwise_map] at h ⊢
  exact h.imp fun h e => h (by cases e; rfl)
theorem lf_dictB {h : Heap} {a : Addr} {vs : List (Leaf × Value)} {ns : List Int} (e : vs.map (·.1) = ns.map Leaf.num) (d : h.DictOf (cK P w) a vs) : h.DictOf (mixKind P w) a (lfB vs ns) := by
  obtain ⟨o, es, ep, ho, hx, hd, hk, hp, hn⟩ := d
  refine ⟨o, es, ep, ho, hx, hd, fun en he => ?_, lf_back e hp, ?_⟩
  · obtain ⟨k, k1, k2⟩ := hk en he
    have key : ∀ {vs : List (Leaf × Value)} {ns : List Int} {es : List DictEntry}, vs.map (·.1) = ns.map Leaf.num → Pairs (cK P w) es vs → ∀ en ∈ es, ∃ i, (cK P w).is (.num i) en.key = true := by
      intro vs ns es e h
      induction h generalizing ns with
      | nil => intro en he; cases he
      | @cons e' kv' es' vs' h1 h2 h3 ih =>
        cases ns with
        | nil => cases e
        | cons n ns =>
          injection e with e1 e2
          dsimp only at e1
          intro en he
          rcases List.mem_cons.mp he with rfl | he
          · exact ⟨n, by rw [← e1]; exact h1⟩
          · exact ih e2 en he
    obtain ⟨i, hi⟩ := key e hp en (by simpa using he)
    have e1 : k = .num i := (cK P w).inj _ _ _ k1 hi
    subst e1
    exact ⟨.inl i, kk_is hi, by rw [k2]; exact (lf_hash (.inl i)).symm⟩
  · rw [lfB_keys e]
    rw [e] at hn
    exact nodup_num hn
theorem kv_back : ∀ {kvs : List (Leaf × V)} {vs : List (Leaf × Value)} {ns : List Int}, KV kvs vs → kvs.map (·.1) = ns.map Leaf.num → KV (List.zip (ns.map (Sum.inl : Int → Key)) (kvs.map (·.2))) (lfB vs ns)
  | [], _, [], h, _ => by cases h; exact .nil
  | _ :: _, _, n :: ns, h, e => by
    cases h with
    | cons h t =>
      injection e with e1 e2
      exact .cons ⟨rfl, h.2⟩ (kv_back t e2)
  | [], _, _ :: _, _, e => by cases e
  | _ :: _, _, [], _, e => by cases e
theorem lfs_back {D : Type} : ∀ {kvs : List (Leaf × D)} {ns : List Int}, kvs.map (·.1) = ns.map Leaf.num → lfs (List.zip (ns.map (Sum.inl : Int → Key)) (kvs.map (·.2))) = kvs
  | [], [], _ => rfl
  | [], _ :: _, h => by cases h
  | _ :: _, [], h => by cases h
  | (l, v) :: kvs, n :: ns, h => by
    injection h with k1 k2
    dsimp only at k1
    subst k1
    exact congrArg (List.cons (Leaf.num n, v)) (lfs_back k2)
theorem kv_keys : ∀ {kvs : List (Leaf × V)} {vs : List (Leaf × Value)}, KV kvs vs → vs.map (·.1) = kvs.map (·.1)
  | _, _, .nil => rfl
  | _, _, .cons h t => by
    rw [List.map_cons, List.map_cons, kv_keys t, h.1]
end
def rSortedDc (P : Program) (w : World) : List V → Hp → VK → Prop := fun vs H Q => ∃ (a : Addr) (kvs : List (Leaf × V)) (ns : List Int), vs = [V.ref a] ∧ H a = some (DicO P w a kvs) ∧ kvs.map (·.1) = ns.map Leaf.num ∧ ns.length < 64 ∧
  ∀ (ys : List Int) (p : Addr), ys.Perm ns → ys.Pairwise (· ≤ ·) → H p = none → Q (.ref p) (upd H p (.lst (ys.map V.int)))
section
variable {X : Cx}
theorem cr_sortedDc (hc : X.calm = true) : CallR X (.builtin "sorted") (rSortedDc X.prog X.w) := by
  intro pins s σ H vs us Q I r h
  obtain ⟨a, kvs, ns, rfl, hH, hk, hl, q⟩ := h
  obtain ⟨z, hd, vs, rel, dd⟩ := dz_of I hH
  have he : ∃ o, s.heap.get? a = some o := let ⟨o, _, _, ho, _⟩ := dd; ⟨o, ho⟩
  have hkv : vs.map (·.1) = ns.map Leaf.num := by rw [kv_keys rel, hk]
  have len2 : (List.zip (ns.map (Sum.inl : Int → Key)) (kvs.map (·.2))).length = ns.length := by
    rw [List.length_zip, List.length_map, List.length_map]
    have := congrArg List.length hk
    rw [List.length_map, List.length_map] at this
    omega
  have I2 : Inv X pins σ (upd H a (.dK (List.zip (ns.map (Sum.inl : Int → Key)) (kvs.map (·.2))))) { s with heap := s.heap, toks := s.toks } :=
    I.write (x := a) (e := a) (by rw [hH]; exact True.intro) (.inl rfl) (fun _ _ _ q => q) he ⟨by rw [len2, sizeLine_eq]; omega, hd, _, kv_back rel hk, lf_dictB hkv dd⟩
  refine thn (call_sortedDI hc pins s σ _ [.ref a] us (fun v H' => ∃ (ys : List Int) (p : Addr), v = .ref p ∧ ys.Perm ns ∧ ys.Pairwise (· ≤ ·) ∧ H p = none ∧ p ≠ a ∧ H' = upd (upd H a (.dK (List.zip (ns.map (Sum.inl : Int → Key)) (kvs.map (·.2))))) p (.lst (ys.map V.int))) I2 r ⟨a, _, ns, rfl, .inl upd_same, ?_, hl, fun ys p h1 h2 h3 => ?_⟩) fun u s1 ⟨v, H', I', rv, ys, p, e1, h1, h2, h3, h4, e2⟩ => ?_
  · rw [List.map_fst_zip]
    rw [List.length_map, List.length_map]
    have := congrArg List.length hk
    rw [List.length_map, List.length_map] at this
    omega
  · have ne : p ≠ a := fun e => by rw [e, upd_same] at h3; cases h3
    exact ⟨ys, p, rfl, h1, h2, by rwa [upd_ne ne] at h3, ne, rfl⟩
  · subst e1 e2
    have g : (upd (upd H a (.dK (List.zip (ns.map (Sum.inl : Int → Key)) (kvs.map (·.2))))) p (.lst (ys.map V.int))) a = some (.dK (List.zip (ns.map (Sum.inl : Int → Key)) (kvs.map (·.2)))) := by
      rw [upd_ne (Ne.symm h4), upd_same]
    obtain ⟨z2, hd2, vs2, rel2, dd2⟩ := dk_of I'.hok g
    have he2 : ∃ o, s1.heap.get? a = some o := let ⟨o, _, _, ho, _⟩ := dd2; ⟨o, ho⟩
    have ekv : lfs (List.zip (ns.map (Sum.inl : Int → Key)) (kvs.map (·.2))) = kvs := by
      exact lfs_back hk
    have I3 : Inv X pins σ (upd (upd (upd H a (.dK (List.zip (ns.map (Sum.inl : Int → Key)) (kvs.map (·.2))))) p (.lst (ys.map V.int))) a (DicO X.prog X.w a (lfs (List.zip (ns.map (Sum.inl : Int → Key)) (kvs.map (·.2)))))) { s1 with heap := s1.heap, toks := s1.toks } :=
      I'.write (x := a) (e := a) (by rw [g]; exact True.intro) (.inl rfl) (fun _ _ _ q => q) he2 (dz_ok (by simpa [lfs] using z2) hd2 (lf_kv rel2) (lf_dict dd2))
    have e3 : upd (upd (upd H a (.dK (List.zip (ns.map (Sum.inl : Int → Key)) (kvs.map (·.2))))) p (.lst (ys.map V.int))) a (DicO X.prog X.w a (lfs (List.zip (ns.map (Sum.inl : Int → Key)) (kvs.map (·.2))))) = upd H p (.lst (ys.map V.int)) := by
      rw [ekv]
      funext b
      by_cases c : b = a
      · subst c
        rw [upd_same, upd_ne (Ne.symm h4), hH]
      · rw [upd_ne c]
        by_cases c2 : b = p
        · subst c2
          rw [upd_same, upd_same]
        · rw [upd_ne c2, upd_ne c, upd_ne c2]
    rw [e3] at I3
    exact ⟨_, _, I3, rv, q ys p h1 h2 h3⟩
end
def gSortedDc : DC1 := fun ds S R => match ds with
  | [x] => ∃ k es ns, x = .cell k ∧ S.cell k = some (.dic es) ∧ es.map (·.1) = ns.map Leaf.num ∧ ns.length < 64 ∧ ∀ ns' : List Int, ns'.Perm ns → ns'.Pairwise (· ≤ ·) → (R (.imm (.list (ns'.map .int))) S ∨ R (.cell S.μ.length) (S.new (.lst (ns'.map dI))))
  | _ => False
theorem paired_keys {P : Program} {w : World} {K : PySem.W.Frag} {F : Hp} {α : List Addr} : ∀ {xs : List (Leaf × V)} {es : List (Leaf × DV)}, Paired (KVOk P w K F α) xs es → xs.map (·.1) = es.map (·.1)
  | _, _, .nil => rfl
  | _, _, .cons h t => by rw [List.map_cons, List.map_cons, paired_keys t, h.1]
theorem cd_sortedDc {X : Cx} (hc : X.calm = true) : CallD X (.builtin "sorted") gSortedDc := ⟨_, cr_sortedDc hc, fun B S σ ts H xs ds R Q hl h hd k => by
  match ds, hd with
  | [x], hd =>
    match xs, hl with
    | [y], _ =>
      obtain ⟨F, α, h⟩ := h
      have h1 := h.tm (y, x) (by simp)
      obtain ⟨c, es, ns, rfl, e1, e2, e3, q⟩ := hd
      obtain ⟨a, ks, rfl, g1, g2, g3, g4⟩ := h.cellD h1 e1
      exact ⟨a, ks, ns, rfl, g3, by rw [paired_keys g4, e2], e3, fun ys p h1 h2 hn => by
        rcases q ys h1 h2 with q | q
        · exact k _ _ S _ q ((h.sub memA).newLst hn (rp_ints ys)).ok
        · refine k _ _ _ _ q ((h.sub memA).newCell hn ?_).ok
          have := paired_imm (α := α) (rp_ints (P := X.prog) (w := X.w) (K := X.K) (F := F) ys)
          rwa [List.map_map] at this⟩⟩
theorem r_sortedDc {k : Nat} {es : List (Leaf × DV)} {ns : List Int} {S : DSt} {R : DV → DSt → Prop} (e1 : S.cell k = some (.dic es)) (e2 : es.map (·.1) = ns.map Leaf.num) (e3 : ns.length < 64) (q : ∀ ns' : List Int, ns'.Perm ns → ns'.Pairwise (· ≤ ·) → R (.imm (.list (ns'.map .int))) S) : gSortedDc [.cell k] S R := ⟨k, es, ns, rfl, e1, e2, e3, fun ns' a b => .inl (q ns' a b)⟩
theorem r_sortedDcC {k : Nat} {es : List (Leaf × DV)} {ns : List Int} {S : DSt} {R : DV → DSt → Prop} (e1 : S.cell k = some (.dic es)) (e2 : es.map (·.1) = ns.map Leaf.num) (e3 : ns.length < 64) (q : ∀ ns' : List Int, ns'.Perm ns → ns'.Pairwise (· ≤ ·) → R (.cell S.μ.length) (S.new (.lst (ns'.map dI)))) : gSortedDc [.cell k] S R := ⟨k, es, ns, rfl, e1, e2, e3, fun ns' a b => .inr (q ns' a b)⟩
/-! ## repr of a list, some items flat dicts -/
def plainD : PyData → Bool
  | .none => true
  | .bool _ => true
  | .int _ => true
  | .str _ => true
  | _ => false
def dictFl : PyData → Bool
  | .dict ps => ps.all fun p => plainD p.1 && plainD p.2
  | _ => false
theorem reads_flat {h : Heap} {v : Value} {d : PyData} {as : List Addr} (f : plainD d = true) (r : Reads h v d as) : as = [] := by
  cases r <;> first | rfl | exact absurd f Bool.false_ne_true
theorem readsAll_flat {h : Heap} : ∀ {ds : List PyData} {vs : List Value} {as : List Addr}, (∀ d ∈ ds, plainD d = true) → ReadsAll h vs ds as → as = []
  | [], _, _, _, r => by cases r; rfl
  | d :: ds, _, _, f, r => by
    cases r with
    | cons r1 r2 => rw [reads_flat (f d List.mem_cons_self) r1, readsAll_flat (fun x hx => f x (List.mem_cons_of_mem _ hx)) r2]; rfl
def itemOk (d : PyData) : Prop := d.hasDict = false ∨ dictFl d = true
def CanShowM (ds : List PyData) : Prop := (PyData.list ds).showable = true ∧ wtD (.list ds) ≤ 10000000 ∧ (PyData.list ds).depth ≤ 50 ∧ ds ≠ [] ∧ ∀ d ∈ ds, itemOk d
section
variable {X : Cx} {pins : List (Addr × Obj)} {σ : L2.St} {H F : Hp} {s : Shared}
theorem items_M (I : Inv X pins σ H s) (e : Ex F H) : ∀ {ds : List PyData} {xs : List V} {us : List Value}, RpAll X.prog X.w X.K F xs ds → Vals xs us → PyData.showableAll ds = true → wtAll ds ≤ 10000000 → (∀ d ∈ ds, itemOk d) →
    ∃ bs, ReadAtMost s.heap (PyData.depthAll ds) bs ∧ ReprAllK X.prog X.w bs s.heap (PyData.depthAll ds) us (PyData.shownAll ds)
  | [], _, _, hr, rv, _, _, _ => by
    cases hr; cases rv
    exact ⟨([] : List Addr), (fun b hb => by cases hb), ReprAllK.nil⟩
  | d :: ds, _, _, hr, rv, sh, wt, ok => by
    cases hr with
    | cons h1 h2 => cases rv with
      | cons r1 r2 =>
        rw [PyData.showableAll, Bool.and_eq_true] at sh
        rw [wtAll] at wt
        obtain ⟨bs, b1, b2⟩ := items_M I e h2 r2 sh.2 (by omega) fun x hx => ok x (List.mem_cons_of_mem _ hx)
        obtain ⟨as, ra⟩ := reads_of I e h1 r1
        have hs : d.hasDict = true → sysModules ∉ as := by
          rcases ok d List.mem_cons_self with q | q
          · intro z; rw [q] at z; cases z
          · intro _
            cases h1 with
            | dic k1 k2 k3 =>
              obtain ⟨z, hsy, _⟩ := dz_of I (e _ _ k1)
              cases ra with
              | dict q1 q2 q3 q4 q5 =>
                have fl := List.all_eq_true.mp (show List.all _ (fun p : PyData × PyData => plainD p.1 && plainD p.2) = true from q)
                have f1 := fun (p : PyData × PyData) hp => Bool.and_eq_true_iff.mp (fl p hp)
                rw [readsAll_flat (fun x hx => by
                  obtain ⟨p, hp, rfl⟩ := List.mem_map.mp hx
                  exact (f1 p hp).1) q4, readsAll_flat (fun x hx => by
                  obtain ⟨p, hp, rfl⟩ := List.mem_map.mp hx
                  exact (f1 p hp).2) q5]
                intro m
                have e1 := List.mem_singleton.mp m
                cases (show _ = _ from r1)
                rw [← e1] at hsy
                simp at hsy
            | _ => cases q
        have hl := shown_le d
        obtain ⟨cs, c1, c2⟩ := ReprK.of_reads (prog := X.prog) (w := X.w) ra sh.1 hs (by rw [sizeLine_eq]; omega)
        have hd1 : d.depth ≤ PyData.depthAll (d :: ds) := by simp only [PyData.depthAll]; omega
        have hd2 : PyData.depthAll ds ≤ PyData.depthAll (d :: ds) := by simp only [PyData.depthAll]; omega
        refine ⟨cs ++ bs, (c1.mono hd1).append (b1.mono hd2), ?_⟩
        have one := ReprAllK.more_le (as' := cs ++ bs) (fun b hb => List.mem_append_left _ hb) hd1 (.cons c2 .nil)
        have two := ReprAllK.more_le (as' := cs ++ bs) (fun b hb => List.mem_append_right _ hb) hd2 b2
        rw [PyData.shownAll]
        cases one with
        | cons o1 _ => exact .cons o1 two
theorem allK_at {prog : Program} {w : World} {as : List Addr} {h : Heap} {d : Nat} : ∀ {l : List Value} {ts : List Str}, ReprAllK prog w as h d l ts → ts.length = l.length ∧ ∀ (i : Nat) (y : Value), l[i]? = some y → ∃ t, ts[i]? = some t ∧ ReprK prog w as h d y t
  | _, _, .nil => ⟨rfl, fun i y q => by simp at q⟩
  | _, _, .cons k r => by
    obtain ⟨a1, a2⟩ := allK_at r
    refine ⟨by rw [List.length_cons, List.length_cons, a1], fun i y q => ?_⟩
    cases i with
    | zero =>
      obtain rfl : _ = y := by simpa using q
      exact ⟨_, rfl, k⟩
    | succ i => exact a2 i y (by simpa using q)
def rReprM (P : Program) (w : World) (K : PySem.W.Frag) : List V → Hp → VK → Prop := fun vs H Q => ∃ (a : Addr) (ds : List PyData) (F : Hp), vs = [.ref a] ∧ Ex F H ∧ Rp P w K F (.ref a) (.list ds) ∧ CanShowM ds ∧ Q (.str (PyData.list ds).shown) H
theorem call_reprM (hg : X.A.guards = some []) (hu : X.A.units + 60 < cLine) : CallR X (.builtin "repr") (rReprM X.prog X.w X.K) := by
  intro pins s σ H vs us Q I r h
  obtain ⟨a, ds, F, rfl, e, hr, ⟨c1, c2, c3, c4, c5⟩, q⟩ := h
  rw [Vals.ref1 r]
  obtain ⟨as, ra⟩ := reads_of I e hr (u := .ref a) rfl
  have hl := shown_le (.list ds)
  cases id hr with
  | lst h1 h2 =>
    rename_i xs
    obtain ⟨its, rv, ⟨o, n, ho, hcl, hdi, hda⟩, hz⟩ := I.list (a := a) (xs := xs) (SqL.of (e _ _ h1))
    obtain ⟨bs, b1, b2⟩ := items_M I e h2 rv (by simpa [PyData.showable] using c1) (by rw [wtD] at c2; omega) c5
    have dp : (PyData.list ds).depth = PyData.depthAll ds + 1 := by simp only [PyData.depth, Nat.add_comm]
    have nin : a ∉ bs := not_mem_of_deeper ra (by rw [dp]; exact Nat.lt_succ_self _) b1
    refine call_repr_slot (by omega) ⟨o, ho, hcl⟩ ⟨PySem.F.slot_list_repr.lookup, PySem.F.slot_list_repr.bind, PySem.F.slot_list_repr.check⟩ ?_
    cases its with
    | nil => cases rv; cases h2; exact absurd rfl c4
    | cons x l =>
      obtain ⟨t1, t2⟩ := allK_at b2
      have et : (PyData.list ds).shown = listText (PyData.shownAll ds) := by simp only [PyData.shown]
      refine call_list_reprK ho hcl hda nin (by rw [t1]; rfl) (fun i y hy => t2 i y (by simpa using hy)) (g := []) hg (fun b _ => Clear.nil b) (by show X.A.units + 1 + _ < cLine; omega) (fun _ _ e => e) (fun h' u tk hk => ⟨_, u, rfl, ?_⟩) (by rw [← et, sizeLine_eq]; omega)
      rw [← et]
      exact ⟨.str _, H, I.kept hk, ⟨_, rfl⟩, q⟩
end
def gReprM : DC1 := fun ds S R => gReprN ds S R ∨ (match ds with
  | [d] => ∃ fz ps, FzD S fz d (.list ps) ∧ CanShowM ps ∧ R (dS (PyData.list ps).shown) S
  | _ => False)
theorem cd_reprM {X : Cx} (hg : X.A.guards = some []) (hu : X.A.units + 60 < cLine) : CallD X (.builtin "repr") gReprM := by
  obtain ⟨r, c1, c2⟩ := (cd_reprN hg hu).ex
  refine ⟨_, .or c1 (call_reprM hg hu), fun B S σ ts H xs ds R Q hl h hd k => ?_⟩
  rcases hd with hd | hd
  · exact .inl (c2 B S σ ts H xs ds R Q hl h hd k)
  · match ds, hd with
    | [d], ⟨fz, ps, hf, hc, q⟩ =>
      match xs, hl with
      | [x], _ =>
        obtain ⟨F, α, h⟩ := h
        have hr := fz_rp h hf (h.tm (x, d) (by simp))
        cases id hr with
        | lst h1 h2 =>
          refine .inr ⟨_, ps, fixF F H α fz, rfl, fun b o e => ?_, hr, hc, k _ _ S H q ((h.sub memA).add vstr).ok⟩
          unfold fixF at e
          split at e
          · exact e
          · exact h.fh b o e
section
variable {S : DSt} {R : DV → DSt → Prop}
theorem r_reprMN {ds : List DV} (q : gReprN ds S R) : gReprM ds S R := .inl q
theorem r_reprM {d : DV} {ps : List PyData} (fz : List Nat) (hf : FzD S fz d (.list ps)) (hc : CanShowM ps) (q : R (dS (PyData.list ps).shown) S) : gReprM [d] S R := .inr ⟨fz, ps, hf, hc, q⟩
end
end DL

set_option Elab.async false
set_option linter.all false
set_option maxRecDepth 100000
set_option autoImplicit false
set_option maxHeartbeats 2000000
namespace DL
open PySem PySem.Spec L2 PyProof.Rows

/-! ## dicts whose keys are tuples of whole numbers -/
abbrev tK (P : Program) (w : World) : HeapKind P w (List Int) := tupleKind (intKind P w)
abbrev KT3 : List (List Int × Addr × V) → List (List Int × Addr × Value) → Prop := Paired fun p q => p.1 = q.1 ∧ p.2.1 = q.2.1 ∧ RelV p.2.2 q.2.2
def KeysAt (H : Hp) (xs : List (List Int × Addr × V)) : Prop := ∀ x ∈ xs, TupZ H x.2.1 (x.1.map V.int)
def valT {D : Type} (xs : List (List Int × D)) (k : List Int) : Option D := (xs.find? fun x => decide (x.1 = k)).map (·.2)
def putT (xs : List (List Int × Addr × V)) (k : List Int) (b : Addr) (v : V) : List (List Int × Addr × V) :=
  if (valT xs k).isSome then xs.map (fun x => if x.1 = k then (x.1, x.2.1, v) else x) else xs ++ [(k, b, v)]
def putD (es : List (List Int × DV)) (k : List Int) (d : DV) : List (List Int × DV) :=
  if (valT es k).isSome then es.map (fun x => if x.1 = k then (x.1, d) else x) else es ++ [(k, d)]
def encT (k : List Int) : PyData := .tuple (k.map .int)
theorem valT_cons {D : Type} (p : List Int × D) (xs : List (List Int × D)) (k : List Int) : valT (p :: xs) k = if p.1 = k then some p.2 else valT xs k := by
  unfold valT
  rw [List.find?_cons]
  by_cases c : p.1 = k
  · simp [c]
  · simp [c]
theorem atKey_cons (p : List Int × Addr × Value) (xs : List (List Int × Addr × Value)) (k : List Int) : atKey (p :: xs) k = if p.1 = k then some p.2 else atKey xs k := by
  unfold atKey
  rw [List.find?_cons]
  by_cases c : p.1 = k
  · simp [c]
  · simp [c]
theorem putT_length (xs : List (List Int × Addr × V)) (k : List Int) (b : Addr) (v : V) : (putT xs k b v).length ≤ xs.length + 1 := by
  unfold putT
  split
  · rw [List.length_map]; omega
  · rw [List.length_append]; simp
section
variable {P : Program} {w : World} {H : Hp} {h : Heap} {a b : Addr}
theorem KT3.at {xs : List (List Int × Addr × V)} {vs : List (List Int × Addr × Value)} (r : KT3 xs vs) (k : List Int) : (valT xs k).isSome = (atKey vs k).isSome ∧ ∀ c v, valT xs k = some (c, v) → ∃ u, atKey vs k = some (c, u) ∧ RelV v u := by
  induction r with
  | nil => exact ⟨rfl, fun _ _ e => by cases e⟩
  | @cons p q ps qs hh t ih =>
    obtain ⟨h1, h2, h3⟩ := hh
    rw [valT_cons, atKey_cons, ← h1]
    by_cases c : p.1 = k
    · rw [if_pos c, if_pos c]
      refine ⟨rfl, fun d v e => ?_⟩
      have e' : p.2 = (d, v) := Option.some.inj e
      refine ⟨q.2.2, ?_, by rw [e'] at h3; exact h3⟩
      rw [e'] at h2
      have h2' : d = q.2.1 := h2
      rw [h2']
    · rw [if_neg c, if_neg c]; exact ih
theorem KT3.put {xs : List (List Int × Addr × V)} {vs : List (List Int × Addr × Value)} (r : KT3 xs vs) (k : List Int) (b : Addr) {v : V} {u : Value} (rv : RelV v u) : KT3 (putT xs k b v) (storedH vs k b u) := by
  unfold putT storedH
  rw [(r.at k).1]
  by_cases q : (atKey vs k).isSome = true
  · rw [if_pos q, if_pos q]
    clear q
    induction r with
    | nil => exact .nil
    | @cons p q ps qs hh t ih =>
      rw [List.map_cons, List.map_cons]
      refine .cons ?_ ih
      obtain ⟨h1, h2, h3⟩ := hh
      unfold putAt
      by_cases c : p.1 = k
      · rw [if_pos c, if_pos (h1.symm.trans c)]; exact ⟨h1, h2, rv⟩
      · rw [if_neg c, if_neg (fun z => c (h1.trans z))]; exact ⟨h1, h2, h3⟩
  · rw [if_neg q, if_neg q]
    exact Paired.app' r (.cons ⟨rfl, rfl, rv⟩ .nil)
theorem ints_are : ∀ {ks : List Int} {us : List Value}, Vals (ks.map V.int) us → ItemsAre (intKind P w) ks us
  | [], _, r => by rw [List.map_nil] at r; cases r; exact .nil
  | k :: ks, _, r => by
    rw [List.map_cons] at r
    cases r with
    | cons hh t =>
      obtain ⟨tk, rfl⟩ := hh
      exact .cons (intKind_is _ _ _ _) (ints_are t)
theorem tkey {ks : List Int} (ok : HOk P w H h) (e : TupZ H b (ks.map V.int)) : (tK P w).is h ks b := by
  obtain ⟨ob, _, e⟩ := e
  obtain ⟨_, _, its, r, o, h1, h2, n, h3⟩ := (show ObjOk P w H h b (.frz ob (.tup (ks.map V.int))) from ok b _ e)
  exact ⟨o, its.toArray, n, h1, h2, h3, by simpa using ints_are r⟩
theorem tdk_rd {xs : List (List Int × Addr × V)} (ok : HOk P w H h) (e : H a = some (TdkO P w a xs)) (hk : KeysAt H xs) : xs.length ≤ sizeLine ∧ (a == sysModules) = false ∧ ∃ vs, KT3 xs vs ∧ h.DictOfH (tK P w) a vs := by
  obtain ⟨⟨z, hd, vs, r, o, es, ep, h1, h2, h3, h4, h5⟩, _⟩ := (show ObjOk P w H h a (TdkO P w a xs) from ok a _ e)
  refine ⟨z, hd, vs, r, o, es, ep, h1, h2, h3, h4, fun x hx => ?_, h5⟩
  have all : ∀ {l : List (List Int × Addr × V)} {m : List (List Int × Addr × Value)}, KT3 l m → KeysAt H l → ∀ x ∈ m, (tK P w).is h x.1 x.2.1 := by
    intro l m q
    induction q with
    | nil => intro _ x hx; exact nomatch hx
    | @cons p q ps qs hq t ih =>
      intro hk x hx
      rcases List.mem_cons.mp hx with e | hx
      · subst e
        rw [← hq.1, ← hq.2.1]
        exact tkey ok (hk p List.mem_cons_self)
      · exact ih (fun y hy => hk y (List.mem_cons_of_mem _ hy)) x hx
  exact all r hk x hx
theorem tdk_new {H' : Hp} {h' : Heap} {xs : List (List Int × Addr × V)} {vs : List (List Int × Addr × Value)} (z : xs.length ≤ sizeLine) (hd : (a == sysModules) = false) (r : KT3 xs vs) (dd : h'.DictOfH (tK P w) a vs) : ObjOk P w H' h' a (TdkO P w a xs) := by
  obtain ⟨o, es, ep, h1, h2, h3, h4, _, h5⟩ := dd
  exact ⟨⟨z, hd, vs, r, o, es, ep, h1, h2, h3, h4, h5⟩, ⟨o, h1⟩, fun g1 g2 ⟨q1, q2, vs', q3, o', es', ep', k1, k2⟩ k => ⟨q1, q2, vs', q3, o', es', ep', k o' k1, k2⟩⟩
end
section
variable {X : Cx} {pins : List (Addr × Obj)} {σ : L2.St} {H : Hp} {s : Shared} {a : Addr}
theorem tdk_put {xs : List (List Int × Addr × V)} {vs : List (List Int × Addr × Value)} {k : List Int} {b : Addr} {v : V} {u : Value} {h' : Heap} {t' : Nat} (I : Inv X pins σ H s) (e : H a = some (TdkO X.prog X.w a xs)) (hz : xs.length < sizeLine) (hd : (a == sysModules) = false)
    (r : KT3 xs vs) (rv : RelV v u) (dd : h'.DictOfH (tK X.prog X.w) a (storedH vs k b u)) (hs : Heap.SameBut a s.heap h') : Inv X pins σ (upd H a (TdkO X.prog X.w a (putT xs k b v))) { s with heap := h', toks := t' } := by
  have he : ∃ q, h'.get? a = some q := let ⟨q, _, _, hq, _⟩ := dd; ⟨q, hq⟩
  have hl : (putT xs k b v).length ≤ sizeLine := by have := putT_length xs k b v; omega
  exact d_write I (by rw [e]; exact True.intro) hs he (tdk_new hl hd (r.put k b rv) dd)
/-- d[k] -/
def rAtT (P : Program) (w : World) : R2 := fun x y H Q => ∃ a xs b k c v, x = .ref a ∧ H a = some (TdkO P w a xs) ∧ KeysAt H xs ∧ y = .ref b ∧ TupZ H b (k.map V.int) ∧ valT xs k = some (c, v) ∧ Q v H
theorem ix_tdk (hu : X.A.units + 1 < cLine) : IxR X (rAtT X.prog X.w) := by
  intro value slice pins s σ H x y v u Q I rx ry h hs
  obtain ⟨a, xs, b, k, c, z, rfl, hH, hk, rfl, hb, hv, q⟩ := h
  cases (show v = Value.ref a from rx)
  cases (show u = Value.ref b from ry)
  obtain ⟨_, hd, vs, r, dd⟩ := tdk_rd I.hok hH hk
  obtain ⟨u', e1, ru⟩ := (r.at k).2 c z hv
  exact PyProof.Rows.tail_any dd.typeIs PySem.F.slot_dict_getitem.lookup (wpAny_getItem_heap (tupleKind_room_in1 hu) (tkey I.hok hb) dd e1 ⟨z, H, I.tok _, ru, q⟩) hs
/-- k not in d -/
def rNotInT (P : Program) (w : World) : R2 := fun y x H Q => ∃ a xs b k, x = .ref a ∧ H a = some (TdkO P w a xs) ∧ KeysAt H xs ∧ y = .ref b ∧ TupZ H b (k.map V.int) ∧ Q (.bl (!(valT xs k).isSome)) H
theorem op_ninT (hu : X.A.units + 1 < cLine) : OpR X (compareOp .NotIn) (rNotInT X.prog X.w) := by
  intro pins s σ H x y v u Q I rx ry h
  obtain ⟨a, xs, b, k, rfl, hH, hk, rfl, hb, q⟩ := h
  cases (show u = Value.ref a from ry)
  cases (show v = Value.ref b from rx)
  obtain ⟨_, hd, vs, r, dd⟩ := tdk_rd I.hok hH hk
  exact wpAny_notIn_heap (tupleKind_room_in1 hu) (tkey I.hok hb) hd dd ⟨_, H, I.tok _, by rw [← (r.at k).1]; rfl, q⟩
/-- d[k] = v -/
def rSetT (P : Program) (w : World) : V → V → V → Hp → (Hp → Prop) → Prop := fun o i v H Q => ∃ a xs b k, o = .ref a ∧ i = .ref b ∧ TupZ H b (k.map V.int) ∧ H a = some (TdkO P w a xs) ∧ KeysAt H xs ∧ xs.length < sizeLine ∧ Q (upd H a (TdkO P w a (putT xs k b v)))
theorem set_tdk (hu : X.A.units + 1 < cLine) : PSet X (rSetT X.prog X.w) := by
  intro pins s σ H o i v ov iv u Q I ro ri rv h
  obtain ⟨a, xs, b, k, rfl, rfl, hb, hH, hk, hz, q⟩ := h
  cases (show ov = Value.ref a from ro)
  cases (show iv = Value.ref b from ri)
  obtain ⟨z, hd, vs, r, dd⟩ := tdk_rd I.hok hH hk
  exact wpAny_setItem_heap (hsz := by rw [← Paired.length r]; exact z) (tupleKind_room_in1 hu) (tkey I.hok hb) dd fun h' dd' hs => ⟨_, tdk_put I hH hz hd r rv dd' hs, q⟩
end
/-! ### {}, {k: v} -/
theorem tdk_empty {X : Cx} {H : Hp} (h : Heap) (hb : sysModules < h.objs.size) : ObjOk X.prog X.w H (h.push { cls := .type "dict", data := .dict #[] }) h.objs.size (TdkO X.prog X.w h.objs.size []) :=
  tdk_new (vs := []) (Nat.zero_le _) (beq_eq_false_iff_ne.mpr (Nat.ne_of_gt hb)) .nil (Heap.DictOfH.new h)
def tNewT (P : Program) (w : World) : TE := fun _ H Q => ∀ p, H p = none → Q (.ref p) (upd H p (TdkO P w p []))
def tDispT (P : Program) (w : World) (tk tv : TE) : TE := fun σ H Q => ∀ p, H p = none → tPairs [(tk, tv)] σ (upd H p (TdkO P w p [])) fun ps H2 => ∃ k b y, ps = [(.ref b, y)] ∧ H2 p = some (TdkO P w p []) ∧ TupZ H2 b (k.map V.int) ∧ Q (.ref p) (upd H2 p (TdkO P w p [(k, b, y)]))
section
variable {X : Cx} {pos : Pos} {k v : Expr} {tk tv : TE}
theorem pe_newT : PE X (.Dict [] [] pos) (tNewT X.prog X.w) := ⟨fun pins s σ H Q I h =>
  wpAny_Dict_empty ⟨.ref s.heap.objs.size, _, I.laid (a := s.heap.objs.size) (o := TdkO X.prog X.w s.heap.objs.size []) (t' := s.toks) (fun _ _ q => Heap.get?_push_of_some _ q) (Nat.le_refl _) (tdk_empty (X := X) s.heap I.big), rfl, h _ (I.hok.fresh (Nat.le_refl _))⟩⟩
theorem pe_dispT (hu : X.A.units + 1 < cLine) (hk : PE X k tk) (hv : PE X v tv) : PE X (.Dict [some k] [v] pos) (tDispT X.prog X.w tk tv) := ⟨fun pins s σ H Q I q => by
  have hn := I.hok.fresh (Nat.le_refl s.heap.objs.size)
  have I1 := I.laid (a := s.heap.objs.size) (o := TdkO X.prog X.w s.heap.objs.size []) (h' := s.heap.push { cls := .type "dict", data := .dict #[] }) (t' := s.toks) (fun _ _ q => Heap.get?_push_of_some _ q) (Nat.le_refl _) (tdk_empty (X := X) s.heap I.big)
  have hshape : (evalEachOpt [some k] X.env).zip ((evalEach [v] X.env).map fun v => do let x ← v; standAt pos; pure x) = (pairTrees [some k] [v] X.env pos).map fun p => (some p.1, p.2) := rfl
  rw [arm_eval_Dict, hshape]
  rw [dictDisplay_pairs (pairTrees [some k] [v] X.env pos) (by intro e; cases e) (by show 1 < 17; decide)]
  refine wpAny_bind (wpAny_standAt (wpAny_bind (wpAny_subDictH (knd := tK X.prog X.w) (show X.A.units < cLine by omega) (by show 1 ≤ 15; decide) (thn ((pps_cons hk hv pps_nil).run pins _ σ _ _ I1 (q _ hn)) fun ws s2 hw => ?_))))
  obtain ⟨ps, H2, I2, rel, kk, b, y, rfl, e, hb, q2⟩ := hw
  cases rel with
  | cons r0 r1 =>
    cases r1
    rename_i w0
    obtain ⟨w1, w2⟩ := w0
    obtain ⟨rx, ry⟩ := r0
    cases (show w1 = Value.ref b from rx)
    obtain ⟨z, hd, vs, rr, dd⟩ := tdk_rd I2.hok e (fun x hx => nomatch hx)
    cases rr
    refine ⟨[(kk, b, w2)], ⟨rfl, rfl, tkey I2.hok hb, True.intro⟩, dd, fun h' tk' dd' hs => wpAny_pure ⟨.ref s.heap.objs.size, _, ?_, rfl, q2⟩⟩
    exact tdk_put (vs := []) (k := kk) (b := b) (u := w2) I2 e (by rw [sizeLine_eq]; decide) hd .nil ry dd' hs⟩
end
end DL

set_option Elab.async false
set_option linter.all false
set_option maxRecDepth 100000
set_option autoImplicit false
set_option maxHeartbeats 2000000
namespace DL
open PySem PySem.Spec L2 PyProof.Rows PySem.SeqAt PySem.W

/-! ## sorting tuples of which some are empty (the library sorts tuples none of which is) -/
section
variable {prog : Program} {w : World} {A : Around} {E : Value → Shared → Prop} {s : Shared}
theorem call_tuple_lt {Q : Value → Shared → Prop} {l b : Addr} {items items2 : Array Value} {e r : Nat → Bool} (hl : s.heap.IsTuple l items) (hb : s.heap.IsTuple b items2)
    (he : ∀ j (h1 : j < items.size) (h2 : j < items2.size), EqAt A.in1 s items[j] items2[j] (e j)) (hr : ∀ j (h1 : j < items.size) (h2 : j < items2.size), e j = false → RcLt A.in1 s items[j] items2[j] (r j))
    (h : Q (.bool (firstLt e r (decide (items.size < items2.size)) (List.range (min items.size items2.size)))) s) : wpAny (model prog w) A (call (.builtin "tuple.__lt__") [.ref l, .ref b]) Q E s := by
  obtain ⟨⟨cls, dd, data, sl⟩, ho, hc, n, hd⟩ := id hl
  obtain ⟨⟨cls2, dd2, data2, sl2⟩, ho2, hc2, n2, hd2⟩ := id hb
  simp only at hc hd hc2 hd2
  subst hc hd hc2 hd2
  exact call_meets PySem.F.slot_tuple_lt ⟨_, ho, rfl⟩ PySem.F.entry_tuple_lt (PySem.F.args_tuple_lt_2 _ _) (tuple_ltAt l b items items2 n n2 dd dd2 sl sl2 e r) ⟨ho, ho2, he, hr, h⟩
theorem oneLt_tup {xs ys : List PyData} {a b : Value} {as bs : List Addr} {Q : Bool → Shared → Prop} (ra : Reads s.heap a (.tuple xs) as) (rb : Reads s.heap b (.tuple ys) bs) (hal : alikeAll xs ys = true)
    (hu : A.units + min (PyData.tuple xs).depth (PyData.tuple ys).depth < cLine) (hq : Q (dataLt (.tuple xs) (.tuple ys)) s) : wpAny (model prog w) A (oneLt' true a b) Q E s := by
  cases ra with
  | @tuple l o vs n _ as₁ h1 h2 h3 h4 =>
    cases rb with
    | @tuple l' o' vs' n' _ bs₁ k1 k2 k3 k4 =>
      have n1 : vs.size = xs.length := by simpa using ReadsAll.length _ _ _ h4
      have n2 : vs'.size = ys.length := by simpa using ReadsAll.length _ _ _ k4
      rw [dataLt_tuple, ← firstLt_toks xs ys hal, ← n1, ← n2] at hq
      rw [oneLt'_eq]
      simp only [if_true]
      refine wpAny_bind (wpAny_cRoomFor (room_here hu) ?_)
      refine wpAny_bind (wpAny_callSpecialIfBound?_slot (T := "tuple") ⟨_, h1, h2⟩ PySem.F.slot_tuple_lt (call_tuple_lt (e := pairEq xs ys) (r := fun j => dataLt (xs.getD j .none) (ys.getD j .none)) ⟨_, h1, h2, _, h3⟩ ⟨_, k1, k2, _, k3⟩ (fun j j1 j2 => ?_) (fun j j1 j2 hj => ?_) ?_))
      · have := eqAt_alikeAll xs ys A.in1 s vs.toList vs'.toList _ _ h4 k4 hal (room_in hu) j (by simpa using j1) (by simpa using j2)
        simpa using this
      · have := rcLt_alikeAll xs ys A.in1 s vs.toList vs'.toList _ _ h4 k4 hal (room_in hu) j (by simpa using j1) (by simpa using j2) hj
        simpa using this
      · exact wpAny_truthy_bool hq
def emptyT : PyData → Bool
  | .tuple [] => true
  | _ => false
/-- what each tuple begins with -/
theorem firsts_mix {M : Model} : ∀ {vs : List Value} {ds : List PyData} {Q : List (Option Value) → Shared → Prop}, EachIs (fun v d => ∃ as, Reads s.heap v d as) vs ds → (∀ d ∈ ds, ∃ xs, d = .tuple xs) →
    (∀ fs : List (Option Value), fs.map (·.isSome) = ds.map (fun d => !emptyT d) → Q fs s) → wpAny M A (vs.mapM firstOfTuple') Q E s
  | _, _, Q, .nil, _, h => by rw [List.mapM_nil]; exact wpAny_pure (h [] rfl)
  | _, _, Q, .cons (b := d) ⟨as, r⟩ t, ht, h => by
    obtain ⟨xs, rfl⟩ := ht d (List.mem_cons_self ..)
    cases r with
    | @tuple a o vs n _ as₁ h1 h2 h3 h4 =>
      rw [List.mapM_cons]
      refine wpAny_bind ?_
      rw [kas_first_eq]
      refine wpAny_bind (Looks.here (show Looks M s.heap (typeOf (.ref a)) o.cls from (Looks.ld h1).andThen .now) ?_)
      rw [h2, if_neg (by first | decide | simp)]
      refine wpAny_bind (listItems_at h1 h3 (wpAny_pure ?_))
      refine wpAny_bind (firsts_mix (Q := fun bs s' => wpAny M A (pure (vs[0]? :: bs)) Q E s') t (fun d hd => ht d (List.mem_cons_of_mem _ hd)) fun fs hfs => wpAny_pure (h _ ?_))
      have hl : vs.toList.length = xs.length := ReadsAll.length _ _ _ h4
      rw [List.map_cons, List.map_cons, hfs]
      congr 1
      cases xs with
      | nil =>
        have : vs = #[] := by
          apply Array.eq_empty_of_size_eq_zero
          simpa using hl
        subst this
        rfl
      | cons x r =>
        have : 0 < vs.size := by
          have e : vs.toList.length = vs.size := by simp
          rw [← e, hl]; simp
        rw [Array.getElem?_eq_getElem this]
        rfl
theorem looks_tups : ∀ {vs : List Value} {ds : List PyData}, EachIs (fun v d => ∃ as, Reads s.heap v d as) vs ds → (∀ d ∈ ds, ∃ xs, d = .tuple xs) → ∀ v ∈ vs, ∀ M : Model, Looks M s.heap (typeOf v) (Value.type "tuple")
  | _, _, .nil, _ => fun v hv => nomatch hv
  | _, _, .cons (b := d) ⟨as, r⟩ t, ht => fun v hv M => by
    rcases List.mem_cons.mp hv with e | hv
    · subst e
      obtain ⟨xs, rfl⟩ := ht d (List.mem_cons_self ..)
      exact looks_reads r
    · exact looks_tups t (fun d hd => ht d (List.mem_cons_of_mem _ hd)) v hv M
/-- the model's kind of such keys -/
theorem mix_kind {M : Model} {vs : List Value} {ds : List PyData} {Q : SortKind → Shared → Prop} (e : EachIs (fun v d => ∃ as, Reads s.heap v d as) vs ds) (ht : ∀ d ∈ ds, ∃ xs, d = .tuple xs) (h0 : ∃ d ∈ ds, emptyT d = true)
    (h : ∀ kd, kd = (if (ds.head?.map emptyT).getD true = true then oneType' else general') → Q kd s) : wpAny M A (keyKind' vs.toArray) Q E s := by
  rw [keyKind'_eq, List.mapM_toArray, map_eq_pure_bind]
  refine wpAny_bind (wpAny_bind (firsts_mix e ht fun fs hfs => wpAny_pure ?_))
  have hall : ¬ (fs.toArray.all fun x => x.isSome) = true := by
    intro q
    rw [List.all_toArray, List.all_eq_true] at q
    obtain ⟨d, hd, hd2⟩ := h0
    have hm : (!emptyT d) ∈ fs.map (·.isSome) := by rw [hfs]; exact List.mem_map.mpr ⟨d, hd, rfl⟩
    obtain ⟨f, hf, hf2⟩ := List.mem_map.mp hm
    rw [hd2, q f hf] at hf2
    cases hf2
  rw [if_neg hall]
  cases ds with
  | nil => obtain ⟨d, hd, _⟩ := h0; cases hd
  | cons d0 dr =>
    cases fs with
    | nil => cases hfs
    | cons f0 fr =>
      rw [List.map_cons, List.map_cons] at hfs
      injection hfs with g1 g2
      have e0 : ((f0 :: fr).toArray[0]?.bind id).isSome = !emptyT d0 := by
        rw [← g1]
        simp
      cases q : emptyT d0 with
      | false =>
        rw [e0, q]
        exact wpAny_pure (h _ (by simp [q]))
      | true =>
        rw [e0, q, if_neg (by decide)]
        rw [oneTypeOnly'_eq, List.mapM_toArray, map_eq_pure_bind]
        have hT := looks_tups e ht
        cases vs with
        | nil => cases e
        | cons v0 vr =>
          refine wpAny_bind (wpAny_bind (wpAny_bind (kas_mapM (r := Value.type "tuple") _ (fun v hv Q' hq => (hT v hv _).here hq) (wpAny_pure ?_))))
          have hall2 : ((List.map (fun _ => Value.type "tuple") (v0 :: vr)).toArray.all fun x => x == Value.type "tuple") = true := by
            simp only [List.all_toArray, List.all_map, List.all_eq_true]
            intro _ _
            rfl
          have h00 : (List.map (fun _ => Value.type "tuple") (v0 :: vr)).toArray[0]? = some (Value.type "tuple") := by simp
          rw [h00]
          simp only [hall2, if_true]
          exact wpAny_pure (wpAny_pure (h _ (by simp [q])))
theorem sorts_mix {vs : List Value} {ds : List PyData} (e : EachIs (fun v d => ∃ as, Reads s.heap v d as) vs ds) (hal : AllAlike ds) (ht : ∀ d ∈ ds, ∃ xs, d = .tuple xs) (hu : ∀ d, d ∈ ds → A.units + d.depth < cLine) : SortsAt prog w A s (dataKind s.heap ds) vs := by
  by_cases h0 : ∃ d ∈ ds, emptyT d = true
  · refine ⟨fun v hv => ?_, if (ds.head?.map emptyT).getD true = true then oneType' else general', ?_, fun h2 E Q hq => mix_kind e ht h0 fun kd hk => by rw [hk]; exact hq⟩
    · obtain ⟨d, hd, as, r⟩ := e.left v hv
      exact ⟨_, dataKind_some hal hd r⟩
    · intro E x y a b Q ha hb hq
      obtain ⟨d, as, hd, ra, rfl⟩ := dataKind_inv ha
      obtain ⟨d', as', hd', rb, rfl⟩ := dataKind_inv hb
      have room : A.units + min d.depth d'.depth < cLine := Nat.lt_of_le_of_lt (Nat.add_le_add_left (Nat.min_le_left _ _) _) (hu d hd)
      split
      · rw [keyLt'_oneType]
        obtain ⟨xs, rfl⟩ := ht d hd
        obtain ⟨ys, rfl⟩ := ht d' hd'
        exact oneLt_tup ra rb (by simpa [alike] using hal _ hd _ hd') room hq
      · show wpAny _ _ (oneLt' false x y) _ _ _
        exact oneLt_alike (fun z => nomatch z) ra rb (hal d hd d' hd') (by obtain ⟨xs, rfl⟩ := ht d hd; exact fun z => nomatch z) room hq
  · refine SortsAt.data e hal (.inl fun d hd => ?_) hu
    obtain ⟨xs, rfl⟩ := ht d hd
    cases xs with
    | nil => exact (h0 ⟨_, hd, rfl⟩).elim
    | cons x r => exact ⟨x, r, rfl⟩
end
end DL

set_option Elab.async false
set_option linter.all false
set_option maxRecDepth 100000
set_option autoImplicit false
set_option maxHeartbeats 2000000
namespace DL
open PySem PySem.Spec L2 PyProof.Rows

/-! ## d.get(k, x), sorted(d): keys that are tuples -/
def tGetT (P : Program) (w : World) (td ty tx : TE) : TE := fun σ H Q => td σ H fun x H1 => ∃ a, x = .ref a ∧ (∃ xs, H1 a = some (TdkO P w a xs) ∧ KeysAt H1 xs) ∧
  ty σ H1 fun y H2 => tx σ H2 fun z H3 => ∃ xs b k, H3 a = some (TdkO P w a xs) ∧ KeysAt H3 xs ∧ y = .ref b ∧ TupZ H3 b (k.map V.int) ∧ Q (((valT xs k).map (·.2)).getD z) H3
section
variable {X : Cx} {o e f : Expr} {apos cpos : Pos} {td ty tx : TE}
theorem pe_getT (hu : X.A.units + 1 < cLine) (ho : PE X o td) (he : PE X e ty) (hf : PE X f tx) (m : M2 X o "get" apos e f cpos) : PE X (.Call (.Attribute o "get" apos) [e, f] [] cpos) (tGetT X.prog X.w td ty tx) := ⟨fun pins s σ H Q I h => by
  refine wpAny_Call_method m.base m.few m.line PySem.F.plainAttrs_dict PySem.F.slot_dict_get PySem.F.type_dict_get (thn (ho.run pins s σ H _ I h) fun u s1 hu' => ?_)
  obtain ⟨x, H1, I1, rx, a, rfl, ⟨xs0, hH0, hk0⟩, q1⟩ := hu'
  cases (show u = Value.ref a from rx)
  obtain ⟨_, _, _, _, d0⟩ := tdk_rd I1.hok hH0 hk0
  refine ⟨d0.typeIs, fun b q => by cases q; obtain ⟨ob, _, _, h1, h2, _⟩ := d0; exact ⟨ob, h1, h2.2.1⟩, ?_⟩
  rw [m.trees]
  refine Calls.callWith_builtin rfl (Calls.evalArgs_plain (Calls.spliced_cons (thn (he.run pins s1 σ H1 _ I1 q1) fun iv s2 ⟨y, H2, I2, ry, q2⟩ =>
    Calls.spliced_cons (thn (hf.run pins s2 σ H2 _ I2 q2) fun fv s3 hf3 => Calls.spliced_nil ?_))))
  obtain ⟨z, H3, I3, rz, xs, b, k, hH, hk, rfl, hb, q⟩ := hf3
  cases (show iv = Value.ref b from ry)
  obtain ⟨_, hd, vs, r, dd⟩ := tdk_rd I3.hok hH hk
  refine call_meetsIn PySem.F.slot_dict_get dd.typeIs PySem.F.entry_dict_get (PySem.F.args_dict_get_3 _ _ _) (meetsH_dict_get_default (tK X.prog X.w) a b hd fv) ⟨tupleKind_room_in1 hu, k, vs, tkey I3.hok hb, dd, ?_⟩
  refine ⟨_, H3, I3.tok _, ?_, q⟩
  cases ev : valT xs k with
  | none =>
    have : atKey vs k = none := by
      have e1 := (r.at k).1
      rw [ev] at e1
      cases e2 : atKey vs k with
      | none => rfl
      | some p => rw [e2] at e1; cases e1
    rw [this]
    exact rz
  | some p =>
    obtain ⟨c, v⟩ := p
    obtain ⟨u, e1, ru⟩ := (r.at k).2 c v ev
    rw [e1]
    exact ru⟩
end
def rSortedT (P : Program) (w : World) : List V → Hp → VK → Prop := fun vs H Q => ∃ (a : Addr) (xs : List (List Int × Addr × V)), vs = [V.ref a] ∧ H a = some (TdkO P w a xs) ∧ KeysAt H xs ∧
  ∀ (zs : List (List Int × Addr × V)) (p : Addr), zs.Perm xs → H p = none → Q (.ref p) (upd H p (.lst (zs.map fun z => V.ref z.2.1)))
section
variable {prog : Program} {w : World} {A : Around} {E : Value → Shared → Prop} {s : Shared} {β : Type} {vs : List Value} {bs : List β} {enc : β → PyData} {R : Value → β → Prop}
/-- xs.sort(), the items tuples of which some may be empty -/
theorem list_sort_mix {a : Addr} {n : Nat} {Q : Value → Shared → Prop} (ho : s.heap.get? a = some (seqObj "list" vs.toArray n)) (e : PySem.W.EachIs R vs bs) (er : PySem.W.EachIs (fun v b => ∃ as, Reads s.heap v (enc b) as ∧ a ∉ as) vs bs) (hal : PySem.W.AllAlike (bs.map enc)) (ht : ∀ b, ∃ xs, enc b = .tuple xs) (hL : bs.length ≤ sizeLine)
    (hu : ∀ b, b ∈ bs → A.units + 1 + (enc b).depth < cLine) (h : ∀ out, out.length = bs.length → PySem.W.EachIs R out (bs.mergeSort (PySem.W.dataLe false enc)) → Q .none { s with heap := sortedHeap s.heap a vs (List.toArray out) }) :
    wpAny (model prog w) A (call (.builtin "list.sort") [.ref a]) Q E s := by
  have er' : PySem.W.EachIs (fun v b => ∃ as, Reads (PySem.W.sortingHeap s.heap a vs) v (enc b) as) vs bs := PySem.W.each_keepBut (h' := PySem.W.sortingHeap s.heap a vs) (fun _ _ hb q => PySem.W.sortingHeap_old hb q) (fun o q => by rw [ho] at q; rw [← Option.some.inj q]) hal er
  refine wpAny_call_entry slot_list_sort ⟨_, ho, rfl⟩ entry_list_sort (PySem.W.list_sort_vals (κ := PySem.W.dataKind (PySem.W.sortingHeap s.heap a vs) (bs.map enc)) ho (sorts_mix (s := { s with heap := PySem.W.sortingHeap s.heap a vs }) (PySem.W.each_map (R := fun v d => ∃ as, Reads (PySem.W.sortingHeap s.heap a vs) v d as) enc er') hal (fun d hd => by obtain ⟨b, _, rfl⟩ := List.mem_map.mp hd; exact ht b) (PySem.W.bound_map hu)) (by rw [e.length]; exact hL) ⟨.none, rfl, ?_⟩) (args_list_sort _)
  exact h _ (by rw [PySem.W.sortVals_length false rfl]; exact e.length) (PySem.W.sortVals_data false e er' hal)
end
section
variable {X : Cx}
theorem rp_intsT {P : Program} {w : World} {K : PySem.W.Frag} {F : Hp} {b : Addr} {k : List Int} (h : TupZ F b (k.map V.int)) : Rp P w K F (.ref b) (encT k) := .tup h (rp_ints k)
theorem each_refs : ∀ {xs : List (List Int × Addr × V)} {vs : List (List Int × Addr × Value)}, KT3 xs vs → PySem.W.EachIs (fun v (z : List Int × Addr × V) => v = Value.ref z.2.1) (vs.map fun q => Value.ref q.2.1) xs
  | _, _, .nil => .nil
  | _, _, .cons hh t => .cons (by rw [hh.2.1]) (each_refs t)
theorem refs_vals : ∀ {zs : List (List Int × Addr × V)} {out : List Value}, PySem.W.EachIs (fun v (z : List Int × Addr × V) => v = Value.ref z.2.1) out zs → Vals (zs.map fun z => V.ref z.2.1) out
  | _, _, .nil => .nil
  | _, _, .cons hh t => .cons hh (refs_vals t)
theorem cr_sortedT (hc : X.calm = true) (hu : X.A.units + 60 < cLine) : CallR X (.builtin "sorted") (rSortedT X.prog X.w) := by
  intro pins s σ H xs us Q I r h
  obtain ⟨a, ks, rfl, hH, hk, q⟩ := h
  rw [Vals.ref1 r]
  obtain ⟨z, hd, vs, rel, dd⟩ := tdk_rd I.hok hH hk
  obtain ⟨es, ep, hr, hsz, hen⟩ := dd.raw
  have hlen : es.size = ks.length := by rw [hsz, ← Paired.length rel]
  refine Calls.call_function_entry PyProof.Rows.kind_sorted PyProof.Rows.plain_sorted PyProof.Rows.entry_sorted (PyProof.Rows.args_sorted1 _) ?_
  unfold Builtin.«sorted»
  refine wpAny_bind (m := checkCount "sorted" 1 1 _) (wpAny_pure ?_)
  refine wpAny_bind (PySem.W.kdu_collect (A := X.A.in1) (KdlSrc.rawDict (es := es) (ep := ep) hd) (I.ok.hd hc) hr (by rw [hlen]; exact z) fun h' tk acc hkp hacc => ?_)
  have hal : acc.toList.length = ks.length := by rw [Array.length_toList, hacc.1, hlen]
  have hacc2 : acc.toList = vs.map fun q => Value.ref q.2.1 := by
    apply List.ext_getElem?
    intro j
    rw [Array.getElem?_toList, List.getElem?_map]
    cases e : acc[j]? with
    | none =>
      have : acc.size ≤ j := by simpa using e
      rw [hacc.1, hsz] at this
      rw [List.getElem?_eq_none this]
      rfl
    | some v =>
      obtain ⟨hi, e1⟩ := hacc.2 j v e
      obtain ⟨y, e2, e3, _⟩ := hen j hi
      rw [e2, e1, e3]
      rfl
  have I1 : Inv X pins σ H { s with heap := h', toks := tk } := I.kept hkp
  refine wpAny_bind (wpAny_newList ?_ (by rw [hal]; exact z))
  have hoL : (h'.push (seqObj "list" acc.toList.toArray 0)).get? h'.objs.size = some (seqObj "list" acc.toList.toArray 0) := Heap.get?_push_size _ rfl
  show wpAny _ _ _ _ _ { s with heap := h'.push (seqObj "list" acc.toList.toArray 0), toks := tk }
  have eR : PySem.W.EachIs (fun v (z : List Int × Addr × V) => v = Value.ref z.2.1) acc.toList ks := by rw [hacc2]; exact each_refs rel
  have I2 : HOk X.prog X.w H h' := I1.hok
  have er : PySem.W.EachIs (fun v (b : List Int × Addr × V) => ∃ as, Reads (h'.push (seqObj "list" acc.toList.toArray 0)) v (encT b.1) as ∧ h'.objs.size ∉ as) acc.toList ks := by
    refine (PySem.W.each_mem eR).mono fun v b hvb => ?_
    obtain ⟨e1, hb⟩ := hvb
    obtain ⟨as, ra⟩ := reads_of I1 (Ex.refl H) (rp_intsT (P := X.prog) (w := X.w) (K := X.K) (hk b hb)) (u := v) e1
    have hz : as = [] := by
      have ra' : Reads h' v (.tuple (b.1.map .int)) as := ra
      cases ra' with
      | tuple h1 h2 h3 h4 => exact readsAll_flat (fun d hd => by obtain ⟨i, _, rfl⟩ := List.mem_map.mp hd; rfl) h4
    subst hz
    exact ⟨[], PyProof.Rows.Reads.keeps (fun _ _ q => Heap.get?_push_of_some _ q) ra, fun z => nomatch z⟩
  have hal3 : PySem.W.AllAlike (ks.map fun z : List Int × Addr × V => encT z.1) := PySem.W.AllAlike.of fun b b' => by
    show PySem.W.alike (.tuple _) (.tuple _) = true
    rw [PySem.W.alike]
    exact PySem.W.alike_ints b.1 b'.1
  have hu3 : ∀ b ∈ ks, X.A.in1.units + 1 + (encT b.1).depth < cLine := fun b _ => by
    have : (encT b.1).depth ≤ 1 := by
      unfold encT
      rw [PyData.depth, PySem.W.depth_ints]
      omega
    have e1 : X.A.in1.units = X.A.units + 1 := rfl
    rw [e1]
    omega
  refine wpAny_bind (wpAny_holding (list_sort_mix (s := { s with heap := h'.push (seqObj "list" acc.toList.toArray 0), toks := tk }) (enc := fun z : List Int × Addr × V => encT z.1) hoL eR er hal3 (fun b => ⟨_, rfl⟩) z hu3 fun out hn eo => ?_))
  obtain ⟨e', he'⟩ := PyProof.Rows.sortedHeap_at (vs := acc.toList) (out := out.toArray) hoL
  have hl : ((ks.mergeSort (PySem.W.dataLe false fun z : List Int × Addr × V => encT z.1)).map fun z => V.ref z.2.1).length ≤ sizeLine := by
    rw [List.length_map, List.length_mergeSort]; exact z
  refine wpAny_pure ⟨_, rfl, .ref h'.objs.size, upd H h'.objs.size (.lst ((ks.mergeSort (PySem.W.dataLe false fun z : List Int × Addr × V => encT z.1)).map fun z => V.ref z.2.1)), I1.laid (t' := tk) (fun b u e => ?_) (Nat.le_refl _)
    (show ObjOk X.prog X.w _ _ _ (.lst _) from ⟨hl, out, e', refs_vals eo, he'⟩), rfl, q _ _ (List.mergeSort_perm _ _) (I1.hok.fresh (Nat.le_refl _))⟩
  have hb : b < h'.objs.size := Heap.lt_size e
  rw [PyProof.Rows.sortedHeap_old (Nat.ne_of_lt hb) (by rw [size_push']; exact Nat.lt_succ_of_lt hb)]
  exact Heap.get?_push_of_some _ e
end
end DL

set_option Elab.async false
set_option linter.all false
set_option maxRecDepth 100000
set_option autoImplicit false
set_option maxHeartbeats 2000000
namespace DL
open PySem PySem.Spec L2 PyProof.Rows

/-! ## dicts with tuples as keys: the readings over data -/
def TOk (P : Program) (w : World) (K : PySem.W.Frag) (F : Hp) (α : List Addr) : List Int × Addr × V → List Int × DV → Prop := fun p q => p.1 = q.1 ∧ Rp P w K F (.ref p.2.1) (.tuple (p.1.map .int)) ∧ VOk P w K F α p.2.2 q.2
section
variable {P : Program} {w : World} {K : PySem.W.Frag} {B : Bs} {S S' : DSt} {σ : L2.St} {ts : List (V × DV)} {H F F' : Hp} {α : List Addr} {v : V} {d : DV}
theorem ints_rp : ∀ {ns : List Int} {xs : List V}, RpAll P w K F xs (ns.map .int) → xs = ns.map V.int
  | [], _, h => by
    have h' : RpAll P w K F _ [] := h
    cases h'; rfl
  | n :: ns, _, h => by
    have h' : RpAll P w K F _ (.int n :: ns.map .int) := h
    cases h' with
    | cons h1 h2 => cases h1; rw [List.map_cons, ints_rp h2]
theorem tup_ints {b : Addr} {k : List Int} (h : Rp P w K F (.ref b) (.tuple (k.map .int))) : TupZ F b (k.map V.int) := by
  cases h with
  | tup h1 h2 => rw [← ints_rp h2]; exact h1
theorem vok_tup {k : List Int} (h : VOk P w K F α v (.imm (encT k))) : ∃ b, v = .ref b ∧ TupZ F b (k.map V.int) ∧ Rp P w K F (.ref b) (.tuple (k.map .int)) := by
  have h' : Rp P w K F v (.tuple (k.map .int)) := h
  cases h' with
  | tup h1 h2 => exact ⟨_, rfl, by rw [← ints_rp h2]; exact h1, .tup h1 h2⟩
theorem keys_at (e : Ex F H) : ∀ {xs : List (List Int × Addr × V)} {es : List (List Int × DV)}, Paired (TOk P w K F α) xs es → KeysAt H xs
  | _, _, .nil => fun x hx => nomatch hx
  | _, _, .cons hh t => fun x hx => by
    rcases List.mem_cons.mp hx with c | hx
    · subst c; exact (tup_ints hh.2.1).up e
    · exact keys_at e t x hx
theorem StAt.cellT {k : Nat} {es : List (List Int × DV)} (h : StAt P w K B S σ ts H F α) (hv : VOk P w K F α v (.cell k)) (e : S.cell k = some (.tdk es)) : ∃ a xs, v = .ref a ∧ α[k]? = some a ∧ F a = none ∧ H a = some (TdkO P w a xs) ∧ Paired (TOk P w K F α) xs es := by
  obtain ⟨a, h1, rfl⟩ := hv
  obtain ⟨a', g1, g2, xs, g3, g4⟩ := h.ce k _ (cell_get e)
  cases h1.symm.trans g1
  exact ⟨a, xs, rfl, h1, g2, g3, g4⟩
theorem valT_ok {xs : List (List Int × Addr × V)} {es : List (List Int × DV)} (h : Paired (TOk P w K F α) xs es) (k : List Int) : (valT xs k).isSome = (valT es k).isSome ∧ ∀ d, valT es k = some d → ∃ c v, valT xs k = some (c, v) ∧ VOk P w K F α v d := by
  induction h with
  | nil => exact ⟨rfl, fun _ e => by cases e⟩
  | @cons p q ps qs hh t ih =>
    obtain ⟨h1, h2, h3⟩ := hh
    rw [valT_cons, valT_cons, ← h1]
    by_cases c : p.1 = k
    · rw [if_pos c, if_pos c]
      exact ⟨rfl, fun d e => ⟨p.2.1, p.2.2, rfl, by cases e; exact h3⟩⟩
    · rw [if_neg c, if_neg c]; exact ih
theorem putD_ok {xs : List (List Int × Addr × V)} {es : List (List Int × DV)} (h : Paired (TOk P w K F α) xs es) (k : List Int) {b : Addr} (hb : Rp P w K F (.ref b) (.tuple (k.map .int))) (hv : VOk P w K F α v d) : Paired (TOk P w K F α) (putT xs k b v) (putD es k d) := by
  unfold putT putD
  rw [(valT_ok h k).1]
  by_cases c : (valT es k).isSome = true
  · rw [if_pos c, if_pos c]
    clear c
    induction h with
    | nil => exact .nil
    | @cons p q ps qs hh t ih =>
      rw [List.map_cons, List.map_cons]
      refine .cons ?_ ih
      obtain ⟨h1, h2, h3⟩ := hh
      by_cases c : q.1 = k
      · rw [if_pos c, if_pos (h1.trans c)]; exact ⟨h1, h2, hv⟩
      · rw [if_neg c, if_neg (fun z => c (h1.symm.trans z))]; exact ⟨h1, h2, h3⟩
  · rw [if_neg c, if_neg c]
    exact Paired.app' h (.cons ⟨rfl, hb, hv⟩ .nil)
theorem tok_keys {xs : List (List Int × Addr × V)} {es : List (List Int × DV)} (h : Paired (TOk P w K F α) xs es) : xs.map (·.1) = es.map (·.1) := by
  induction h with
  | nil => rfl
  | cons hh t ih => rw [List.map_cons, List.map_cons, ih, hh.1]
theorem tok_rps : ∀ {zs : List (List Int × Addr × V)}, (∀ z ∈ zs, Rp P w K F (.ref z.2.1) (.tuple (z.1.map .int))) → RpAll P w K F (zs.map fun z => V.ref z.2.1) ((zs.map (·.1)).map encT)
  | [], _ => .nil
  | z :: zs, h => .cons (h z List.mem_cons_self) (tok_rps fun y hy => h y (List.mem_cons_of_mem _ hy))
theorem tok_mem {xs : List (List Int × Addr × V)} {es : List (List Int × DV)} (h : Paired (TOk P w K F α) xs es) : ∀ z ∈ xs, Rp P w K F (.ref z.2.1) (.tuple (z.1.map .int)) := by
  induction h with
  | nil => exact fun z hz => nomatch hz
  | cons hh t ih =>
    intro z hz
    rcases List.mem_cons.mp hz with c | hz
    · subst c; exact hh.2.1
    · exact ih z hz
end
def gAtT : D2 := fun x y S R => ∃ j es k d, x = .cell j ∧ S.cell j = some (.tdk es) ∧ y = .imm (encT k) ∧ valT es k = some d ∧ R d S
def gNinT : D2 := fun x y S R => ∃ j es k, y = .cell j ∧ S.cell j = some (.tdk es) ∧ x = .imm (encT k) ∧ R (dB (!(valT es k).isSome)) S
def gSortedT : DC1 := fun ds S R => match ds with
  | [x] => ∃ j es, x = .cell j ∧ S.cell j = some (.tdk es) ∧ ∀ ks : List (List Int), ks.Perm (es.map (·.1)) → R (.imm (.list (ks.map encT))) S
  | _ => False
def dNewT : DTE := fun S R => R (.cell S.μ.length) (S.new (.tdk []))
def dDispT (dk dv : DTE) : DTE := fun S R => dk S fun x S1 => dv S1 fun y S2 => ∃ k, x = .imm (encT k) ∧ R (.cell S2.μ.length) (S2.new (.tdk [(k, y)]))
def kGetT (dy dx : DTE) (R : DV → DSt → Prop) : DV → DSt → Prop := fun o S1 => match o with
  | .cell j => (∃ es, S1.cell j = some (.tdk es)) ∧ dy S1 fun y S2 => dx S2 fun z S3 => ∃ es k, S3.cell j = some (.tdk es) ∧ y = .imm (encT k) ∧ R ((valT es k).getD z) S3
  | _ => False
def dGetT (do' dy dx : DTE) : DTE := fun S R => do' S (kGetT dy dx R)
def dPutT (dv' dobj dix : DTE) : DTS := fun D S => dv' S fun v S1 => dobj S1 fun o S2 => dix S2 fun i S3 => ∃ j es k, o = .cell j ∧ S3.cell j = some (.tdk es) ∧ i = .imm (encT k) ∧ es.length < sizeLine ∧ D.nx (S3.put j (.tdk (putD es k v)))
section
variable {X : Cx} {a b o i e f : Expr} {pos p apos cpos : Pos} {da db do' dy dx de di : DTE}
theorem de_atT (hu : X.A.units + 1 < cLine) (ha : DE X a da) (hb : DE X b db) (hs : PlainIx b := by exact fun _ _ => rfl) : DE X (.Subscript a b pos) (dOp gAtT da db) := by
  obtain ⟨ta, a1, a2⟩ := ha.ex
  obtain ⟨tb, b1, b2⟩ := hb.ex
  refine ⟨_, pe_ix (ix_tdk hu) a1 b1 hs, snd_op a2 b2 fun B S σ ts H x y dx dy R Q h hd k => ?_⟩
  obtain ⟨j, es, kk, d, rfl, e1, rfl, e2, q⟩ := hd
  obtain ⟨F, α, h⟩ := h
  obtain ⟨a, xs, rfl, g1, g2, g3, g4⟩ := h.cellT h.top2 e1
  obtain ⟨b, rfl, t1, t2⟩ := vok_tup h.top
  obtain ⟨c, v, v1, v2⟩ := (valT_ok g4 kk).2 d e2
  exact ⟨a, xs, b, kk, c, v, rfl, g3, keys_at h.fh g4, rfl, t1.up h.fh, v1, k v d S H q ((h.sub mem2).add v2).ok⟩
theorem od_ninT (hu : X.A.units + 1 < cLine) : OpD X (compareOp .NotIn) gNinT := ⟨_, op_ninT hu, fun B S σ ts H x y dx dy R Q h hd k => by
  obtain ⟨j, es, kk, rfl, e1, rfl, q⟩ := hd
  obtain ⟨F, α, h⟩ := h
  obtain ⟨a, xs, rfl, g1, g2, g3, g4⟩ := h.cellT h.top e1
  obtain ⟨b, rfl, t1, t2⟩ := vok_tup h.top2
  refine ⟨a, xs, b, kk, rfl, g3, keys_at h.fh g4, rfl, t1.up h.fh, ?_⟩
  rw [(valT_ok g4 kk).1]
  exact k _ _ S H q ((h.sub mem2).add vbl).ok⟩
theorem cd_sortedT (hc : X.calm = true) (hu : X.A.units + 60 < cLine) : CallD X (.builtin "sorted") gSortedT := ⟨_, cr_sortedT hc hu, fun B S σ ts H xs ds R Q hl h hd k => by
  match ds, hd with
  | [x], hd =>
    match xs, hl with
    | [y], _ =>
      obtain ⟨F, α, h⟩ := h
      have h1 := h.tm (y, x) (by simp)
      obtain ⟨j, es, rfl, e1, q⟩ := hd
      obtain ⟨a, ys, rfl, g1, g2, g3, g4⟩ := h.cellT h1 e1
      refine ⟨a, ys, rfl, g3, keys_at h.fh g4, fun zs p hp hn => ?_⟩
      have hr : RpAll X.prog X.w X.K F (zs.map fun z => V.ref z.2.1) ((zs.map (·.1)).map encT) := tok_rps fun z hz => tok_mem g4 z (hp.mem_iff.mp hz)
      exact k _ _ S _ (q (zs.map (·.1)) (by rw [← tok_keys g4]; exact hp.map _)) ((h.sub memA).newLst hn hr).ok⟩
theorem de_newT : DE X (.Dict [] [] pos) dNewT := ⟨_, pe_newT, fun B S σ ts H R Q h hd k => by
  obtain ⟨F, α, h⟩ := h
  intro p hp
  exact k _ _ _ _ hd ((h.cellNew (o := TdkO X.prog X.w p []) (u := .tdk []) hp ⟨[], upd_same, .nil⟩).add (d := .cell S.μ.length) ⟨p, by rw [← h.al, List.getElem?_append_right (Nat.le_refl _), Nat.sub_self]; rfl, rfl⟩).ok⟩
theorem de_dispT (hu : X.A.units + 1 < cLine) (ha : DE X a da) (hb : DE X b db) : DE X (.Dict [some a] [b] pos) (dDispT da db) := by
  obtain ⟨ta, a1, a2⟩ := ha.ex
  obtain ⟨tb, b1, b2⟩ := hb.ex
  refine ⟨_, pe_dispT hu a1 b1, fun B S σ ts H R Q o hd kk => ?_⟩
  obtain ⟨F, α, o⟩ := o
  intro D hD
  have hα : D ∉ α := fun q => o.an D q hD
  have hF := o.freeF hD
  have hB := o.freshB hD
  have o1 := o.free (o := TdkO X.prog X.w D []) hα hF hB
  refine a2 _ S σ ts _ _ _ o1.base.ok hd fun x dx S1 H1 q1 w1 => ?_
  refine b2 _ S1 σ _ H1 _ _ w1 q1 fun y dy S2 H2 q2 w2 => ?_
  obtain ⟨F2, α2, w2⟩ := w2
  obtain ⟨d1, d2, d3⟩ := w2.bc D _ upd_same hF hα
  obtain ⟨k, rfl, q2⟩ := q2
  obtain ⟨b, rfl, t1, t2⟩ := vok_tup w2.top2
  have hy := w2.top
  refine ⟨k, b, y, rfl, d1, t1.up w2.fh, ?_⟩
  have o3 := ((o1.rebase w2).sub (ts' := ts) fun p hp => List.mem_cons_of_mem _ (List.mem_cons_of_mem _ hp)).free (o := TdkO X.prog X.w D [(k, b, y)]) d3 d2 hB
  have o4 := o3.adopt (o := .tdk [(k, dy)]) d3 d2 (by rw [upd_same]; exact fun z => by cases z) hB ⟨_, upd_same, .cons ⟨rfl, t2, hy.up (Ex.refl _)⟩ .nil⟩
  exact kk _ _ _ _ q2 (o4.add (d := .cell S2.μ.length) ⟨D, by rw [← o3.al, List.getElem?_append_right (Nat.le_refl _), Nat.sub_self]; rfl, rfl⟩).ok
theorem de_getT (hu : X.A.units + 1 < cLine) (ho : DE X o do') (he : DE X e dy) (hf : DE X f dx) (m : M2 X o "get" apos e f cpos) : DE X (.Call (.Attribute o "get" apos) [e, f] [] cpos) (dGetT do' dy dx) := by
  obtain ⟨t, a1, a2⟩ := ho.ex
  obtain ⟨ty, b1, b2⟩ := he.ex
  obtain ⟨tx, c1, c2⟩ := hf.ex
  refine ⟨_, pe_getT hu a1 b1 c1 m, fun B S σ ts H R Q h hd kk => a2 B S σ ts H _ _ h hd fun x d S1 H1 q o1 => ?_⟩
  unfold kGetT at q
  split at q
  · rename_i j
    obtain ⟨⟨es0, e0⟩, q⟩ := q
    obtain ⟨F1, α1, o1⟩ := o1
    obtain ⟨a, xs0, rfl, g1, g2, g3, g4⟩ := o1.cellT o1.top e0
    refine ⟨a, rfl, ⟨xs0, g3, keys_at o1.fh g4⟩, b2 B S1 σ _ H1 _ _ o1.ok q fun y dy' S2 H2 q2 o2 => c2 B S2 σ _ H2 _ _ o2 q2 fun z dz S3 H3 q3 o3 => ?_⟩
    obtain ⟨es, k, e3, rfl, q3⟩ := q3
    obtain ⟨F3, α3, o3⟩ := o3
    obtain ⟨a', xs, r1, n1, n2, n3, n4⟩ := o3.cellT (o3.tm (.ref a, .cell j) (by simp)) e3
    cases r1
    have hy := o3.tm (y, .imm (encT k)) (by simp)
    have hz := o3.tm (z, dz) (by simp)
    obtain ⟨b, rfl, t1, t2⟩ := vok_tup hy
    refine ⟨xs, b, k, n3, keys_at o3.fh n4, rfl, t1.up o3.fh, kk _ _ S3 H3 q3 ?_⟩
    cases ev : valT es k with
    | none =>
      have : valT xs k = none := by
        have e1 := (valT_ok n4 k).1
        rw [ev] at e1
        cases e2 : valT xs k with
        | none => rfl
        | some p => rw [e2] at e1; cases e1
      rw [this]
      exact ((o3.sub fun p hp => by simp [hp]).add hz).ok
    | some d' =>
      obtain ⟨c, v, w1, w2⟩ := (valT_ok n4 k).2 d' ev
      rw [w1]
      exact ((o3.sub fun p hp => by simp [hp]).add w2).ok
  · exact q.elim
theorem ds_putT (hu : X.A.units + 1 < cLine) (he : DE X e de) (ho : DE X o do') (hi : DE X i di)
    (hs : swapsWithSole [.Subscript o i p] e pos.line X.env = pure false := by rfl) (hw : swappedStores [.Subscript o i p] e X.env = pure none := by rfl) (h1 : (assignEach [.Subscript o i p] X.env).map (·.2) = [assign (.Subscript o i p) X.env] := by rfl)
    (hg : ∀ v, assign (.Subscript o i p) X.env v = (do let ov ← holding [v] (eval o X.env); let iv ← holding [v, ov] (eval i X.env); standAt p; holding [v, ov, iv] (setItem ov iv v); release [v, ov, iv] []) := by intro _; rfl) :
    DS X (.Assign [.Subscript o i p] e pos) (dPutT de do' di) := by
  obtain ⟨t, a1, a2⟩ := he.ex
  obtain ⟨to, o1, o2⟩ := ho.ex
  obtain ⟨ti, i1, i2⟩ := hi.ex
  refine ⟨_, ps_asg a1 (pg_sub o1 i1 (set_tdk hu) hg) hs hw h1, fun B S σ ts H D G h hd l => a2 B S σ ts H _ _ h hd fun v d S1 H1 q q' => o2 B S1 σ _ H1 _ _ q' q fun x dx S2 H2 r r' => i2 B S2 σ _ H2 _ _ r' r fun y dy S3 H3 z z' => ?_⟩
  obtain ⟨j, es, k, rfl, e1, rfl, hz, z⟩ := z
  obtain ⟨F, α, z'⟩ := z'
  obtain ⟨a, xs, rfl, g1, g2, g3, g4⟩ := z'.cellT z'.top2 e1
  obtain ⟨b, rfl, t1, t2⟩ := vok_tup z'.top
  have hv : VOk X.prog X.w X.K F α v d := z'.tm (v, d) (by simp)
  exact ⟨a, xs, b, k, rfl, rfl, t1.up z'.fh, g3, keys_at z'.fh g4, by rw [Paired.length g4]; exact hz, l.nx _ _ _ z ((z'.cellPut (u := .tdk (putD es k d)) g1 g2 ⟨_, upd_same, putD_ok g4 k t2 hv⟩).sub fun p hp => by simp [hp]).ok⟩
end
section
variable {S : DSt} {R : DV → DSt → Prop} {j : Nat} {es : List (List Int × DV)} {k : List Int} {d : DV} {do' dy dx dk dv de di : DTE} {D : DEnds}
theorem r_atT (e1 : S.cell j = some (.tdk es)) (e2 : valT es k = some d) (q : R d S) : gAtT (.cell j) (.imm (encT k)) S R := ⟨j, es, k, d, rfl, e1, rfl, e2, q⟩
theorem r_ninT (e1 : S.cell j = some (.tdk es)) (q : R (dB (!(valT es k).isSome)) S) : gNinT (.imm (encT k)) (.cell j) S R := ⟨j, es, k, rfl, e1, rfl, q⟩
theorem r_sortedT (e1 : S.cell j = some (.tdk es)) (q : ∀ ks : List (List Int), ks.Perm (es.map (·.1)) → R (.imm (.list (ks.map encT))) S) : gSortedT [.cell j] S R := ⟨j, es, rfl, e1, q⟩
theorem r_newT (q : R (.cell S.μ.length) (S.new (.tdk []))) : dNewT S R := q
theorem r_dispT (q : dk S fun x S1 => dv S1 fun y S2 => ∃ k, x = .imm (encT k) ∧ R (.cell S2.μ.length) (S2.new (.tdk [(k, y)]))) : dDispT dk dv S R := q
theorem r_getT (h : do' S (kGetT dy dx R)) : dGetT do' dy dx S R := h
theorem r_kGetT (e : S.cell j = some (.tdk es)) (h : dy S fun y S2 => dx S2 fun z S3 => ∃ es k, S3.cell j = some (.tdk es) ∧ y = .imm (encT k) ∧ R ((valT es k).getD z) S3) : kGetT dy dx R (.cell j) S := ⟨⟨es, e⟩, h⟩
theorem r_putT (h : de S fun v S1 => do' S1 fun o S2 => di S2 fun i S3 => ∃ j es k, o = .cell j ∧ S3.cell j = some (.tdk es) ∧ i = .imm (encT k) ∧ es.length < sizeLine ∧ D.nx (S3.put j (.tdk (putD es k v)))) : dPutT de do' di D S := h
end
/-! ## script != [] -/
def gNeScr : D2 := fun x y S R => ∃ ns, x = .scr ns ∧ y = .imm (.list []) ∧ R (dB (!decide (ns = []))) S
theorem dp_ints {K : PySem.W.Frag} {H : Hp} : ∀ ns : List Int, DpAll K H (ns.map V.int) (ns.map PyData.int)
  | [] => .nil
  | n :: ns => .cons (.int n) (dp_ints ns)
theorem od_neScr {X : Cx} (hu : X.A.units + 64 < cLine) : OpD X (compareOp .NotEq) gNeScr := ⟨_, op_neD hu, fun B S σ ts H x y dx dy R Q h hd k => by
  obtain ⟨ns, rfl, rfl, q⟩ := hd
  obtain ⟨F, α, h⟩ := h
  obtain ⟨b, rfl, hb⟩ := h.top2
  have s1 := shaped_ints ns
  have s2 : SeqAt.shaped (.list []) = true := shaped_ints []
  refine ⟨.list (ns.map .int), .list [], .lst (h.fh.l hb) (dp_ints ns), h.dat h.top rfl s2, s1, s2, ?_⟩
  rw [show PyData.eqv (.list (ns.map .int)) (.list []) = decide (ns = []) by cases ns <;> simp [PyData.eqv, PyData.eqvAll]]
  exact k _ _ S H q ((h.sub mem2).add vbl).ok⟩
theorem od_neXS {X : Cx} (hu : X.A.units + 64 < cLine) : OpD X (compareOp .NotEq) (gOr gNeX gNeScr) := by
  obtain ⟨r, a1, a2⟩ := (od_neX (X := X) hu).ex
  obtain ⟨r', b1, b2⟩ := (od_neScr (X := X) hu).ex
  exact ⟨_, .or a1 b1, snd_rOr a2 b2⟩
theorem r_neScr {S : DSt} {R : DV → DSt → Prop} {ns : List Int} (q : R (dB (!decide (ns = []))) S) : gOr gNeX gNeScr (.scr ns) (.imm (.list [])) S R := .inr ⟨ns, rfl, rfl, q⟩
end DL

set_option Elab.async false
set_option linter.all false
set_option maxRecDepth 100000
set_option autoImplicit false
set_option maxHeartbeats 2000000
namespace DL
open PySem PySem.Spec L2 PyProof.Rows

/-! ## t[::-1] of a tuple -/
section
variable {prog : Program} {w : World} {A : Around} {E : Value → Shared → Prop} {s : Shared}
theorem applied_rev {sl : Addr} {vl vu vs : Value} {n : Nat} {Q : Int × Int × Nat → Shared → Prop} (hs : s.heap.IsSliceOf sl vl vu vs) (pl : IsPart vl none) (pu : IsPart vu none) (ps : IsPart vs (some (-1)))
    (h : Q (((n : Int) - 1), -1, n) s) : wpAny (model prog w) A (Builtin.Slice.sliceApplied (.ref sl) (pure (n : Int))) Q E s := by
  obtain ⟨os, hos, hcs, hds⟩ := id hs
  unfold Builtin.Slice.sliceApplied Builtin.Slice.sliceFields
  refine wpAny_bind (wpAny_bind (wpAny_field hos hds (x := vl) rfl (wpAny_bind (wpAny_field hos hds (x := vu) rfl (wpAny_bind (wpAny_field hos hds (x := vs) rfl (wpAny_pure ?_)))))))
  refine wpAny_bind (HT.slicePart_ ps ?_)
  show wpAny _ _ (if ((-1 : Int) == 0) = true then _ else _) _ _ s
  rw [if_neg (by decide)]
  refine wpAny_bind (HT.slicePart_ pl (wpAny_bind (HT.slicePart_ pu (wpAny_bind (wpAny_pure ?_)))))
  show wpAny _ _ (pure (((n : Int) - 1), (-1 : Int), Builtin.Slice.slicePlaces ((n : Int) - 1) (-1) (-1))) _ _ s
  have e : Builtin.Slice.slicePlaces ((n : Int) - 1) (-1) (-1) = n := by
    unfold Builtin.Slice.slicePlaces
    rw [if_neg (by decide)]
    by_cases c : (n : Int) - 1 > -1
    · rw [if_pos c]
      have : ((n : Int) - 1 - -1 - 1) / (- -1) = (n : Int) - 1 := by
        rw [show (- -1 : Int) = 1 by decide, Int.ediv_one]; omega
      rw [this]; omega
    · rw [if_neg c]; omega
  rw [e]
  exact wpAny_pure h
theorem pick_rev (items : Array Value) : ((List.range items.size).filterMap fun (m : Nat) => items[(((items.size : Int) - 1) + (m : Int) * -1).toNat]?).toArray = items.toList.reverse.toArray := by
  rw [← PySem.W.krv_pick]
  unfold slicePick
  rw [PySem.W.krv_bounds]
  show _ = ((sliceRange ((items.size : Int) - 1) (-1) (-1)).filterMap (items[·]?)).toArray
  rw [PySem.W.krv_sliceRange, List.filterMap_map]
  have ef : (fun (m : Nat) => items[(((items.size : Int) - 1) + (m : Int) * -1).toNat]?) = ((fun x => items[x]?) ∘ fun k => items.size - 1 - k) := funext fun m => by
    have : (((items.size : Int) - 1) + (m : Int) * -1).toNat = items.size - 1 - m := by omega
    show items[(((items.size : Int) - 1) + (m : Int) * -1).toNat]? = items[items.size - 1 - m]?
    rw [this]
  rw [ef]
theorem getItem_tuple_rev {t sl : Addr} {items : Array Value} {vl vu vs : Value} {Q : Value → Shared → Prop} (ht : IsTup s.heap t items) (hs : s.heap.IsSliceOf sl vl vu vs) (pl : IsPart vl none) (pu : IsPart vu none) (ps : IsPart vs (some (-1)))
    (h : Q (.ref s.heap.objs.size) { s with heap := s.heap.push { cls := .type "tuple", data := .seq items.toList.reverse.toArray } })
    (hsz : items.size ≤ sizeLine) : wpAny (model prog w) A (getItem (.ref t) (.ref sl)) Q E s := by
  have htake : sizeOk (.seq items.toList.reverse.toArray) := by
    show items.toList.reverse.toArray.size ≤ sizeLine
    rw [List.size_toArray, List.length_reverse, Array.length_toList]
    exact hsz
  obtain ⟨os, hos, hcs, hds⟩ := id hs
  have hTs : s.TypeIs (.ref sl) "slice" := ⟨os, hos, hcs⟩
  unfold getItem
  try with_reducible refine wpAny_holding ?_
  first | refine wpAny_bind (wpAny_pure ?_) | skip
  refine wpAny_bind (wpAny_sequenceKey ht.typeIs (by decide) ?_)
  refine wpAny_bind (wpAny_callSpecial?_slot (name := Str.ofString "__getitem__") ht.typeIs PyProof.Rows.slot_tuple_getitem
    (wpAny_call_entry PyProof.Rows.slot_tuple_getitem ht.typeIs entry_tuple_getitem ?_ (args_tuple_getitem _ _)))
  show wpAny _ _ (Builtin.Tuple.tupleItemsOf (.ref t) >>= _) _ _ s
  refine wpAny_bind (tupleItemsOf_ ht ?_)
  refine wpAny_bind (wpAny_typeOf hTs ?_)
  rw [if_pos (by decide)]
  refine wpAny_bind (applied_rev hs pl pu ps ?_)
  show wpAny _ _ (if (((items.size : Int) - 1) == 0 && (-1 : Int) == 1 && items.size == items.size) = true then _ else _) _ _ s
  rw [if_neg (by simp), pick_rev]
  first
    | exact wpAny_bind (m := Builtin.Tuple.tupleExact _) (wpAny_newObj_type (wpAny_pure ⟨_, rfl, wpAny_pure h⟩) htake)
    | exact wpAny_bind (m := Builtin.Tuple.tupleExact _) (wpAny_newObj_type (wpAny_bind (wpAny_pure (wpAny_pure ⟨_, rfl, wpAny_pure h⟩))) htake)
    | exact wpAny_bind (wpAny_bind (m := Builtin.Tuple.tupleExact _) (wpAny_newObj_type (wpAny_pure (wpAny_pure ⟨_, rfl, wpAny_pure h⟩)) htake))
    | exact wpAny_bind (wpAny_bind (m := Builtin.Tuple.tupleExact _) (wpAny_newObj_type (wpAny_pure ⟨_, rfl, wpAny_pure h⟩) htake))
end
def tRevT (K : PySem.W.Frag) (te : TE) : TE := fun σ H Q => te σ H fun x H1 => ∃ a xs, x = .ref a ∧ SqT K H1 a xs ∧ NewZ H1 xs.reverse Q
section
variable {X : Cx} {e : Expr} {de : DTE} {p1 p2 p3 pos : Pos}
theorem pe_revT {te : TE} {k : Nat} (he : PE X e te) : PE X (.Subscript e (.Slice none none (some (.UnaryOp .USub (.Constant (.int 1) k p1) p2)) p3) pos) (tRevT X.K te) := by
  refine ⟨fun pins s σ H Q I h => ?_⟩
  refine Subscript_ (thn (he.run pins s σ H _ I h) fun v s1 ⟨x, H1, I1, r1, q1⟩ => ?_)
  obtain ⟨a, xs, ex, hx, q⟩ := q1
  subst ex
  cases r1
  have hst : PO X (some (.UnaryOp .USub (.Constant (.int 1) k p1) p2)) (tPart (tUn (rU fun i => .int (-i)) (tC (.int 1)))) := po_some (pe_un un_neg pe_int)
  refine wpAny_Slice (thn (po_none.run pins s1 σ H1 (fun o H2 => o = none ∧ H2 = H1) I1 ⟨rfl, rfl⟩) fun vl s2 ⟨l, H2, I2, pl, el, e2⟩ => ?_)
  subst el e2
  refine thn (po_none.run pins s2 σ H2 (fun o H3 => o = none ∧ H3 = H2) I2 ⟨rfl, rfl⟩) fun vu s3 ⟨u, H3, I3, pu, eu, e3⟩ => ?_
  subst eu e3
  refine thn (hst.run pins s3 σ H3 (fun o H4 => o = some (-1) ∧ H4 = H3) I3 ⟨1, rfl, -1, rfl, rfl, rfl⟩) fun vs s4 ⟨o, H4, I4, ps, eo, e4⟩ => ?_
  subst eo e4
  have I5 : Inv X pins σ H4 { s4 with heap := s4.heap.push { cls := .type "slice", data := .fields #[vl, vu, vs] } } := I4.kept (t' := s4.toks) fun b ob q => Heap.get?_push_of_some _ q
  obtain ⟨its, r, ht, hz⟩ := I5.tuple hx
  have hlen := r.length
  show wpAny (model X.prog X.w) X.A (subscriptTail e (.Slice none none (some (.UnaryOp .USub (.Constant (.int 1) k p1) p2)) p3) (.ref a) (.ref s4.heap.objs.size)) (EP X pins σ Q) X.xe { s4 with heap := s4.heap.push { cls := .type "slice", data := .fields #[vl, vu, vs] } }
  refine tail_any (ops := [.ref a, .ref s4.heap.objs.size]) ht.typeIs (PyProof.Rows.slot_tuple_getitem.lookup) ?_ (by with_unfolding_all rfl)
  refine getItem_tuple_rev ht (Heap.IsSliceOf.new _ vl vu vs) pl pu ps ?_ (by rw [List.size_toArray]; omega)
  exact laidZ (t' := s4.toks) I5 r.reverse (by rw [List.length_reverse]; exact hz) q
def kRevT (R : DV → DSt → Prop) : DV → DSt → Prop := fun x S1 => match S1.seq x with
  | some (false, es) => match allImm es with
    | some ps => R (.imm (.tuple ps.reverse)) S1
    | none => False
  | _ => False
def dRevT (de : DTE) : DTE := fun S R => de S (kRevT R)
theorem de_revT {k : Nat} (h : DE X e de) : DE X (.Subscript e (.Slice none none (some (.UnaryOp .USub (.Constant (.int 1) k p1) p2)) p3) pos) (dRevT de) := by
  obtain ⟨t, a1, a2⟩ := h.ex
  refine ⟨_, pe_revT a1, fun B S σ ts H R Q o hd kk => a2 B S σ ts H _ _ o hd fun v d S1 H1 q o1 => ?_⟩
  unfold kRevT at q
  split at q
  · rename_i es e1
    split at q
    · rename_i ps e2
      obtain ⟨F, α, o1⟩ := o1
      obtain ⟨p, ys, rfl, hq, hp⟩ := o1.seq o1.top e1
      exact ⟨p, ys, rfl, hq, fun l ob hn ho => kk _ _ S1 _ q ((o1.sub mem1).newTup hn ho (imms (allImm_rev e2) (paired_rev hp))).ok⟩
    · exact q.elim
  · exact q.elim
end
theorem r_revT {S : DSt} {R : DV → DSt → Prop} {de : DTE} (h : de S (kRevT R)) : dRevT de S R := h
theorem r_kRevT {S : DSt} {R : DV → DSt → Prop} {ps : List PyData} (q : R (.imm (.tuple ps.reverse)) S) : kRevT R (.imm (.tuple ps)) S := by
  unfold kRevT
  show (match allImm (ps.map DV.imm) with | some ps => R (.imm (.tuple ps.reverse)) S | none => False)
  rw [allImm_map]
  exact q
end DL

set_option Elab.async false
set_option linter.all false
set_option maxRecDepth 100000
set_option autoImplicit false
set_option maxHeartbeats 4000000
namespace K33
open PySem PySem.Spec L2 DL PyProof.Rows
/-! ## the text: scopes, data readings, derivations (printed by gen.py) -/
def topS (i : Nat) : Stmt := PySem.Challenge.pw_deadlane_k33_routes.main.body.getD i (.Pass ⟨0, 0, 0, 0⟩)
abbrev s_route_in : Stmt := topS 11
abbrev nm_route_in : List Str := ["lane", "target", "common", "car", "other"]
theorem sc_route_in : FnScope nm_route_in ["lane", "target"] (defScope s_route_in) := ⟨rfl, rfl, rfl, by decide +kernel, rfl, by decide +kernel, by decide +kernel⟩
abbrev s_is_int : Stmt := topS 5
abbrev nm_is_int : List Str := ["value"]
theorem sc_is_int : FnScope nm_is_int ["value"] (defScope s_is_int) := ⟨rfl, rfl, rfl, by decide +kernel, rfl, by decide +kernel, by decide +kernel⟩
abbrev s_in_range : Stmt := topS 6
abbrev nm_in_range : List Str := ["value", "low", "high"]
theorem sc_in_range : FnScope nm_in_range ["value", "low", "high"] (defScope s_in_range) := ⟨rfl, rfl, rfl, by decide +kernel, rfl, by decide +kernel, by decide +kernel⟩
abbrev s_is_car : Stmt := topS 7
abbrev nm_is_car : List Str := ["value"]
theorem sc_is_car : FnScope nm_is_car ["value"] (defScope s_is_car) := ⟨rfl, rfl, rfl, by decide +kernel, rfl, by decide +kernel, by decide +kernel⟩
abbrev s_is_lane : Stmt := topS 8
abbrev nm_is_lane : List Str := ["value", "car"]
theorem sc_is_lane : FnScope nm_is_lane ["value"] (defScope s_is_lane) := ⟨rfl, rfl, rfl, by decide +kernel, rfl, by decide +kernel, by decide +kernel⟩
abbrev s_require_lane : Stmt := topS 9
abbrev nm_require_lane : List Str := ["value"]
theorem sc_require_lane : FnScope nm_require_lane ["value"] (defScope s_require_lane) := ⟨rfl, rfl, rfl, by decide +kernel, rfl, by decide +kernel, by decide +kernel⟩
abbrev s_route : Stmt := topS 12
abbrev nm_route : List Str := ["lane", "target"]
theorem sc_route : FnScope nm_route ["lane", "target"] (defScope s_route) := ⟨rfl, rfl, rfl, by decide +kernel, rfl, by decide +kernel, by decide +kernel⟩
abbrev s__law_played : Stmt := topS 17
abbrev nm__law_played : List Str := ["lane_here", "calls_here", "found", "car"]
theorem sc__law_played : FnScope nm__law_played ["lane_here", "calls_here"] (defScope s__law_played) := ⟨rfl, rfl, rfl, by decide +kernel, rfl, by decide +kernel, by decide +kernel⟩
abbrev s__law_pair_right : Stmt := topS 21
abbrev nm__law_pair_right : List Str := ["one", "other", "kept", "common", "due"]
theorem sc__law_pair_right : FnScope nm__law_pair_right ["one", "other"] (defScope s__law_pair_right) := ⟨rfl, rfl, rfl, by decide +kernel, rfl, by decide +kernel, by decide +kernel⟩
abbrev s__law_spoon : Stmt := topS 15
abbrev nm__law_spoon : List Str := ["bowl", "many", "found", "mixed"]
theorem sc__law_spoon : FnScope nm__law_spoon ["bowl", "many"] (defScope s__law_spoon) := ⟨rfl, rfl, rfl, by decide +kernel, rfl, by decide +kernel, by decide +kernel⟩
abbrev s__law_shuffled : Stmt := topS 16
abbrev nm__law_shuffled : List Str := ["bowl", "items", "left", "turn"]
theorem sc__law_shuffled : FnScope nm__law_shuffled ["bowl", "items"] (defScope s__law_shuffled) := ⟨rfl, rfl, rfl, by decide +kernel, rfl, by decide +kernel, by decide +kernel⟩
abbrev s__law_pair : Stmt := topS 20
abbrev nm__law_pair : List Str := ["bowl", "cars", "way", "one", "cut", "rest", "car", "fresh", "some", "other"]
theorem sc__law_pair : FnScope nm__law_pair ["bowl"] (defScope s__law_pair) := ⟨rfl, rfl, rfl, by decide +kernel, rfl, by decide +kernel, by decide +kernel⟩
abbrev s__law_bowl : Stmt := topS 14
abbrev nm__law_bowl : List Str := ["script", "k", "cell"]
theorem sc__law_bowl : FnScope nm__law_bowl ["script", "k"] (defScope s__law_bowl) := ⟨rfl, rfl, rfl, by decide +kernel, rfl, by decide +kernel, by decide +kernel⟩
abbrev s__law_start_right : Stmt := topS 19
abbrev nm__law_start_right : List Str := ["start", "cars", "every", "ways", "layer", "fresh", "lane_here", "car", "later", "way", "target"]
theorem sc__law_start_right : FnScope nm__law_start_right ["start", "cars", "every"] (defScope s__law_start_right) := ⟨rfl, rfl, rfl, by decide +kernel, rfl, by decide +kernel, by decide +kernel⟩
abbrev s__law_all_lanes : Stmt := topS 18
abbrev nm__law_all_lanes : List Str := ["cars", "found", "layer", "turn", "longer", "lane_here", "car"]
theorem sc__law_all_lanes : FnScope nm__law_all_lanes ["cars"] (defScope s__law_all_lanes) := ⟨rfl, rfl, rfl, by decide +kernel, rfl, by decide +kernel, by decide +kernel⟩
abbrev s_law : Stmt := topS 22
abbrev nm_law : List Str := ["script", "cars", "every", "start", "k", "bowl", "turn", "one", "other", "whole"]
theorem sc_law : FnScope nm_law ["script"] (defScope s_law) := ⟨rfl, rfl, rfl, by decide +kernel, rfl, by decide +kernel, by decide +kernel⟩
/-- what the top has written -/
structure Top (K : PySem.W.Frag) (mg : Str → Option Value) where
  f_route_in : Addr
  fd_route_in : FuncData
  F_route_in : Fun K "route_in" "route_in" s_route_in f_route_in fd_route_in
  b_route_in : Binds K fd_route_in ["lane", "target"] []
  g_route_in : mg "route_in" = some (.ref f_route_in)
  f_is_int : Addr
  fd_is_int : FuncData
  F_is_int : Fun K "is_int" "is_int" s_is_int f_is_int fd_is_int
  b_is_int : Binds K fd_is_int ["value"] []
  g_is_int : mg "is_int" = some (.ref f_is_int)
  f_in_range : Addr
  fd_in_range : FuncData
  F_in_range : Fun K "in_range" "in_range" s_in_range f_in_range fd_in_range
  b_in_range : Binds K fd_in_range ["value", "low", "high"] []
  g_in_range : mg "in_range" = some (.ref f_in_range)
  f_is_car : Addr
  fd_is_car : FuncData
  F_is_car : Fun K "is_car" "is_car" s_is_car f_is_car fd_is_car
  b_is_car : Binds K fd_is_car ["value"] []
  g_is_car : mg "is_car" = some (.ref f_is_car)
  f_is_lane : Addr
  fd_is_lane : FuncData
  F_is_lane : Fun K "is_lane" "is_lane" s_is_lane f_is_lane fd_is_lane
  b_is_lane : Binds K fd_is_lane ["value"] []
  g_is_lane : mg "is_lane" = some (.ref f_is_lane)
  f_require_lane : Addr
  fd_require_lane : FuncData
  F_require_lane : Fun K "require_lane" "require_lane" s_require_lane f_require_lane fd_require_lane
  b_require_lane : Binds K fd_require_lane ["value"] []
  g_require_lane : mg "require_lane" = some (.ref f_require_lane)
  f_route : Addr
  fd_route : FuncData
  F_route : Fun K "route" "route" s_route f_route fd_route
  b_route : Binds K fd_route ["lane", "target"] []
  g_route : mg "route" = some (.ref f_route)
  f__law_played : Addr
  fd__law_played : FuncData
  F__law_played : Fun K "_law_played" "_law_played" s__law_played f__law_played fd__law_played
  b__law_played : Binds K fd__law_played ["lane_here", "calls_here"] []
  g__law_played : mg "_law_played" = some (.ref f__law_played)
  f__law_pair_right : Addr
  fd__law_pair_right : FuncData
  F__law_pair_right : Fun K "_law_pair_right" "_law_pair_right" s__law_pair_right f__law_pair_right fd__law_pair_right
  b__law_pair_right : Binds K fd__law_pair_right ["one", "other"] []
  g__law_pair_right : mg "_law_pair_right" = some (.ref f__law_pair_right)
  f__law_spoon : Addr
  fd__law_spoon : FuncData
  F__law_spoon : Fun K "_law_spoon" "_law_spoon" s__law_spoon f__law_spoon fd__law_spoon
  b__law_spoon : Binds K fd__law_spoon ["bowl", "many"] []
  g__law_spoon : mg "_law_spoon" = some (.ref f__law_spoon)
  f__law_shuffled : Addr
  fd__law_shuffled : FuncData
  F__law_shuffled : Fun K "_law_shuffled" "_law_shuffled" s__law_shuffled f__law_shuffled fd__law_shuffled
  b__law_shuffled : Binds K fd__law_shuffled ["bowl", "items"] []
  g__law_shuffled : mg "_law_shuffled" = some (.ref f__law_shuffled)
  f__law_pair : Addr
  fd__law_pair : FuncData
  F__law_pair : Fun K "_law_pair" "_law_pair" s__law_pair f__law_pair fd__law_pair
  b__law_pair : Binds K fd__law_pair ["bowl"] []
  g__law_pair : mg "_law_pair" = some (.ref f__law_pair)
  f__law_bowl : Addr
  fd__law_bowl : FuncData
  F__law_bowl : Fun K "_law_bowl" "_law_bowl" s__law_bowl f__law_bowl fd__law_bowl
  b__law_bowl : Binds K fd__law_bowl ["script", "k"] []
  g__law_bowl : mg "_law_bowl" = some (.ref f__law_bowl)
  f__law_start_right : Addr
  fd__law_start_right : FuncData
  F__law_start_right : Fun K "_law_start_right" "_law_start_right" s__law_start_right f__law_start_right fd__law_start_right
  b__law_start_right : Binds K fd__law_start_right ["start", "cars", "every"] []
  g__law_start_right : mg "_law_start_right" = some (.ref f__law_start_right)
  f__law_all_lanes : Addr
  fd__law_all_lanes : FuncData
  F__law_all_lanes : Fun K "_law_all_lanes" "_law_all_lanes" s__law_all_lanes f__law_all_lanes fd__law_all_lanes
  b__law_all_lanes : Binds K fd__law_all_lanes ["cars"] []
  g__law_all_lanes : mg "_law_all_lanes" = some (.ref f__law_all_lanes)
  f_law : Addr
  fd_law : FuncData
  F_law : Fun K "law" "law" s_law f_law fd_law
  b_law : Binds K fd_law ["script"] []
  g_law : mg "law" = some (.ref f_law)
  z_all : mg "all" = none
  z_bool : mg "bool" = none
  z_int : mg "int" = none
  z_isinstance : mg "isinstance" = none
  z_len : mg "len" = none
  z_list : mg "list" = none
  z_max : mg "max" = none
  z_min : mg "min" = none
  z_range : mg "range" = none
  z_repr : mg "repr" = none
  z_set : mg "set" = none
  z_sorted : mg "sorted" = none
  z_tuple : mg "tuple" = none
  z_zip : mg "zip" = none
  c_CARS : ∃ t, mg "CARS" = some (.int 60 t)
section
variable {P : Program} {w : World} {K : PySem.W.Frag} {mg : Str → Option Value} {base : Heap}
def t_route_in (P : Program) (w : World) (K : PySem.W.Frag) : DTS :=
  (dSeq (dAsg (dC (dI 0)) (dgName 2))
    (dSeq (dFor (diZip (dCons (dVar 0) (dCons (dVar 1) dNil))) (dgTwo 3 4)
    (dSeq (dIfS (dTest (dOp gNeX (dVar 3) (dVar 4))) dBreak dNext)
    (dAug 2 (gII (fun _ _ => True) fun i j => dI (i + j)) (dC (dI 1)))))
    (dRetW P w K (dOp (gOr gAdd gAddC) (dSl (dVar 0) (dPart (dVar 2)) (dPart (dOp (gOr gAdd gAddC) (dVar 2) (dC (dI 1))))) (dSl (dVar 1) (dPart (dVar 2)) dNoPart)))))
theorem b_route_in (G : Top K mg) (cdv : Value) (A : Around) (outer : List Env) (s : Shared) (H : Hp) (E : XK) (hr : Room 0 (A.deeper (envOfC "route_in" (defScope s_route_in) s.heap.objs.size G.f_route_in cdv))) (hgd : A.guards = some []) :
    DSs (ctxD P w K mg base nm_route_in "route_in" (defScope s_route_in) G.f_route_in cdv A outer s H E) (defBody s_route_in) (t_route_in P w K) :=
  have S := sc_route_in
  (dss_cons (ds_set (i := 2) S.nd rfl (by first | exact .inl rfl | exact .inr rfl) de_int)
    (dss_cons (ds_for PassesOwn.never rfl (di_zip (by rfl) G.z_zip (da_cons (dv 0) (da_cons (dv 1) da_nil))) (dg_two (i := 3) (j := 4) rfl S.nd rfl rfl (by first | exact .inl rfl | exact .inr rfl) (by first | exact .inl rfl | exact .inr rfl))
    (dss_cons (ds_if (dt_cmp (od_neX (room_u hr)) (dv 3) (dv 4)) (dss_one ds_break) dss_nil)
    (dss_one (ds_aug (i := 2) S.nd rfl (by first | exact .inl rfl | exact .inr rfl) de_int ip_add))))
    (dss_one (ds_retW (de_op od_addX (de_sl (dv 0) (do_some (dv 2)) (do_some (de_op od_addX (dv 2) de_int))) (de_sl (dv 1) (do_some (dv 2)) do_none))))))
theorem ok_route_in (G : Top K mg) {sp : DSp} (len : ∀ ds μ R, sp ds μ R → ds.length = 2)
    (go : ∀ ds μ R, sp ds μ R → t_route_in P w K { nx := fun S => R dN S.μ, rt := fun d S => R d S.μ } ⟨ds.map some ++ List.replicate (5 - ds.length) none, μ⟩) : DFn P w K mg base 1 G.f_route_in G.fd_route_in ["lane", "target"] sp :=
  dfn_len G.F_route_in sc_route_in len (fun cdv A outer s H E hr hgd => b_route_in G cdv A outer s H E hr hgd) go
def t_is_int (P : Program) (w : World) (K : PySem.W.Frag) : DTS :=
  (dRetW P w K (dAndV (dCB gIsi (dCons (dVar 0) (dCons (dC (.raw (.ty "int"))) dNil))) (dNotV (dCB gIsi (dCons (dVar 0) (dCons (dC (.raw (.ty "bool"))) dNil))))))
theorem b_is_int (G : Top K mg) (cdv : Value) (A : Around) (outer : List Env) (s : Shared) (H : Hp) (E : XK) (hr : Room 0 (A.deeper (envOfC "is_int" (defScope s_is_int) s.heap.objs.size G.f_is_int cdv))) (hgd : A.guards = some []) :
    DSs (ctxD P w K mg base nm_is_int "is_int" (defScope s_is_int) G.f_is_int cdv A outer s H E) (defBody s_is_int) (t_is_int P w K) :=
  have S := sc_is_int
  (dss_one (ds_retW (de_and (de_cb cd_isi (by rfl) G.z_isinstance boot_isinstance (da_cons (dv 0) (da_cons (de_braw (v := .ty "int") (by rfl) G.z_int boot_int rfl) da_nil))) (de_one (de_not (de_cb cd_isi (by rfl) G.z_isinstance boot_isinstance (da_cons (dv 0) (da_cons (de_braw (v := .ty "bool") (by rfl) G.z_bool boot_bool rfl) da_nil))))))))
theorem ok_is_int (G : Top K mg) {sp : DSp} (len : ∀ ds μ R, sp ds μ R → ds.length = 1)
    (go : ∀ ds μ R, sp ds μ R → t_is_int P w K { nx := fun S => R dN S.μ, rt := fun d S => R d S.μ } ⟨ds.map some ++ List.replicate (1 - ds.length) none, μ⟩) : DFn P w K mg base 1 G.f_is_int G.fd_is_int ["value"] sp :=
  dfn_len G.F_is_int sc_is_int len (fun cdv A outer s H E hr hgd => b_is_int G cdv A outer s H E hr hgd) go
def t_in_range (P : Program) (w : World) (K : PySem.W.Frag) (sp_is_int : DSp) : DTS :=
  (dRetW P w K (dAndV (dCallX sp_is_int [] (dCons (dVar 0) dNil)) (dChain (gCmp fun i j => decide (i ≤ j)) (gCmp fun i j => decide (i ≤ j)) (dVar 1) (dVar 0) (dVar 2))))
theorem b_in_range (G : Top K mg) {sp_is_int : DSp} (h_is_int : DFn P w K mg base 1 G.f_is_int G.fd_is_int ["value"] sp_is_int) (cdv : Value) (A : Around) (outer : List Env) (s : Shared) (H : Hp) (E : XK) (hr : Room 1 (A.deeper (envOfC "in_range" (defScope s_in_range) s.heap.objs.size G.f_in_range cdv))) (hgd : A.guards = some []) :
    DSs (ctxD P w K mg base nm_in_range "in_range" (defScope s_in_range) G.f_in_range cdv A outer s H E) (defBody s_in_range) (t_in_range P w K sp_is_int) :=
  have S := sc_in_range
  (dss_one (ds_retW (de_and (de_callX h_is_int (hr.mono (by omega)) hgd (by rfl) G.g_is_int G.F_is_int.kp G.b_is_int .nil (fun _ _ => .nil) (da_cons (dv 0) da_nil)) (de_one (de_chain od_le od_le (dv 1) (dv 0) (dv 2))))))
theorem ok_in_range (G : Top K mg) {sp_is_int : DSp} (h_is_int : DFn P w K mg base 1 G.f_is_int G.fd_is_int ["value"] sp_is_int) {sp : DSp} (len : ∀ ds μ R, sp ds μ R → ds.length = 3)
    (go : ∀ ds μ R, sp ds μ R → t_in_range P w K sp_is_int { nx := fun S => R dN S.μ, rt := fun d S => R d S.μ } ⟨ds.map some ++ List.replicate (3 - ds.length) none, μ⟩) : DFn P w K mg base 2 G.f_in_range G.fd_in_range ["value", "low", "high"] sp :=
  dfn_len G.F_in_range sc_in_range len (fun cdv A outer s H E hr hgd => b_in_range G h_is_int cdv A outer s H E hr hgd) go
def t_is_car (P : Program) (w : World) (K : PySem.W.Frag) (sp_in_range : DSp) : DTS :=
  (dRetW P w K (dCallX sp_in_range [] (dCons (dVar 0) (dCons (dC (dI 0)) (dCons (dOp gSub (dC (dI 60)) (dC (dI 1))) dNil)))))
theorem b_is_car (G : Top K mg) {sp_in_range : DSp} (h_in_range : DFn P w K mg base 2 G.f_in_range G.fd_in_range ["value", "low", "high"] sp_in_range) (cdv : Value) (A : Around) (outer : List Env) (s : Shared) (H : Hp) (E : XK) (hr : Room 2 (A.deeper (envOfC "is_car" (defScope s_is_car) s.heap.objs.size G.f_is_car cdv))) (hgd : A.guards = some []) :
    DSs (ctxD P w K mg base nm_is_car "is_car" (defScope s_is_car) G.f_is_car cdv A outer s H E) (defBody s_is_car) (t_is_car P w K sp_in_range) :=
  have S := sc_is_car
  (dss_one (ds_retW (de_callX h_in_range (hr.mono (by omega)) hgd (by rfl) G.g_in_range G.F_in_range.kp G.b_in_range .nil (fun _ _ => .nil) (da_cons (dv 0) (da_cons de_int (da_cons (de_op od_sub (de_gintE (by rfl) G.c_CARS) de_int) da_nil))))))
theorem ok_is_car (G : Top K mg) {sp_in_range : DSp} (h_in_range : DFn P w K mg base 2 G.f_in_range G.fd_in_range ["value", "low", "high"] sp_in_range) {sp : DSp} (len : ∀ ds μ R, sp ds μ R → ds.length = 1)
    (go : ∀ ds μ R, sp ds μ R → t_is_car P w K sp_in_range { nx := fun S => R dN S.μ, rt := fun d S => R d S.μ } ⟨ds.map some ++ List.replicate (1 - ds.length) none, μ⟩) : DFn P w K mg base 3 G.f_is_car G.fd_is_car ["value"] sp :=
  dfn_len G.F_is_car sc_is_car len (fun cdv A outer s H E hr hgd => b_is_car G h_in_range cdv A outer s H E hr hgd) go
def t_is_lane (P : Program) (w : World) (K : PySem.W.Frag) (sp_is_car : DSp) : DTS :=
  (dSeq (dIfS (dOr (dNot (dTest (dCB gIsi (dCons (dVar 0) (dCons (dC (.raw (.ty "tuple"))) dNil))))) (dNot (dTest (dCB (gBools fun bs => bs.all id) (dCons (dLcX (diAny (dVar 0)) (dgName 1) dYes (dCallX sp_is_car [] (dCons (dVar 1) dNil)) [1]) dNil))))) (dRetW P w K (dC (dB false))) dNext)
    (dRetW P w K (dOp gEqX (dCB (gLenS w) (dCons (dCB (gSetT w) (dCons (dVar 0) dNil)) dNil)) (dCB gLenA (dCons (dVar 0) dNil)))))
theorem b_is_lane (G : Top K mg) {sp_is_car : DSp} (h_is_car : DFn P w K mg base 3 G.f_is_car G.fd_is_car ["value"] sp_is_car) (cdv : Value) (A : Around) (outer : List Env) (s : Shared) (H : Hp) (E : XK) (hr : Room 3 (A.deeper (envOfC "is_lane" (defScope s_is_lane) s.heap.objs.size G.f_is_lane cdv))) (hgd : A.guards = some []) :
    DSs (ctxD P w K mg base nm_is_lane "is_lane" (defScope s_is_lane) G.f_is_lane cdv A outer s H E) (defBody s_is_lane) (t_is_lane P w K sp_is_car) :=
  have S := sc_is_lane
  (dss_cons (ds_if (DW.t (dw_or (dt_not (dt_val (de_cb cd_isi (by rfl) G.z_isinstance boot_isinstance (da_cons (dv 0) (da_cons (de_braw (v := .ty "tuple") (by rfl) G.z_tuple boot_tuple rfl) da_nil))))) (dw_or1 (dt_not (dt_val (de_cb (cd_all rfl) (by rfl) G.z_all boot_all (da_cons (de_lcX (own := [("car", 1)]) (js := [1]) rfl S.nd (di_any (dv 0)) (blkOk_by (N := nm_is_lane) (sc := defScope s_is_lane) (by decide +kernel)) (fun _ _ _ _ _ => ⟨(dg_name (i := 1) S.nd rfl (by first | exact .inl rfl | exact .inr rfl)), dts_nil, (de_callX h_is_car (hr.mono (by omega)) hgd (by rfl) G.g_is_car G.F_is_car.kp G.b_is_car .nil (fun _ _ => .nil) (da_cons (dv 1) da_nil))⟩) (by decide)) da_nil))))))) (dss_one (ds_retW de_bl)) dss_nil)
    (dss_one (ds_retW (de_cmp (od_eqX (room_u hr)) (de_cb cd_lenS (by rfl) G.z_len boot_len (da_cons (de_ct (cd_setT rfl) (by rfl) G.z_set boot_set (da_cons (dv 0) da_nil)) da_nil)) (de_cb cd_lenA (by rfl) G.z_len boot_len (da_cons (dv 0) da_nil))))))
theorem ok_is_lane (G : Top K mg) {sp_is_car : DSp} (h_is_car : DFn P w K mg base 3 G.f_is_car G.fd_is_car ["value"] sp_is_car) {sp : DSp} (len : ∀ ds μ R, sp ds μ R → ds.length = 1)
    (go : ∀ ds μ R, sp ds μ R → t_is_lane P w K sp_is_car { nx := fun S => R dN S.μ, rt := fun d S => R d S.μ } ⟨ds.map some ++ List.replicate (2 - ds.length) none, μ⟩) : DFn P w K mg base 4 G.f_is_lane G.fd_is_lane ["value"] sp :=
  dfn_len G.F_is_lane sc_is_lane len (fun cdv A outer s H E hr hgd => b_is_lane G h_is_car cdv A outer s H E hr hgd) go
def t_require_lane (P : Program) (w : World) (K : PySem.W.Frag) (sp_is_lane : DSp) : DTS :=
  (dIfS (dNot (dTest (dCallX sp_is_lane [] (dCons (dVar 0) dNil)))) dNever dNext)
theorem b_require_lane (G : Top K mg) {sp_is_lane : DSp} (h_is_lane : DFn P w K mg base 4 G.f_is_lane G.fd_is_lane ["value"] sp_is_lane) (cdv : Value) (A : Around) (outer : List Env) (s : Shared) (H : Hp) (E : XK) (hr : Room 4 (A.deeper (envOfC "require_lane" (defScope s_require_lane) s.heap.objs.size G.f_require_lane cdv))) (hgd : A.guards = some []) :
    DSs (ctxD P w K mg base nm_require_lane "require_lane" (defScope s_require_lane) G.f_require_lane cdv A outer s H E) (defBody s_require_lane) (t_require_lane P w K sp_is_lane) :=
  have S := sc_require_lane
  (dss_one (ds_if (dt_not (dt_val (de_callX h_is_lane (hr.mono (by omega)) hgd (by rfl) G.g_is_lane G.F_is_lane.kp G.b_is_lane .nil (fun _ _ => .nil) (da_cons (dv 0) da_nil)))) (dss_one ds_never) dss_nil))
theorem ok_require_lane (G : Top K mg) {sp_is_lane : DSp} (h_is_lane : DFn P w K mg base 4 G.f_is_lane G.fd_is_lane ["value"] sp_is_lane) {sp : DSp} (len : ∀ ds μ R, sp ds μ R → ds.length = 1)
    (go : ∀ ds μ R, sp ds μ R → t_require_lane P w K sp_is_lane { nx := fun S => R dN S.μ, rt := fun d S => R d S.μ } ⟨ds.map some ++ List.replicate (1 - ds.length) none, μ⟩) : DFn P w K mg base 5 G.f_require_lane G.fd_require_lane ["value"] sp :=
  dfn_len G.F_require_lane sc_require_lane len (fun cdv A outer s H E hr hgd => b_require_lane G h_is_lane cdv A outer s H E hr hgd) go
def t_route (P : Program) (w : World) (K : PySem.W.Frag) (sp_route_in : DSp) (sp_require_lane : DSp) : DTS :=
  (dSeq (dDrop (dCallX sp_require_lane [] (dCons (dVar 0) dNil)))
    (dSeq (dDrop (dCallX sp_require_lane [] (dCons (dVar 1) dNil)))
    (dRetW P w K (dCallX sp_route_in [] (dCons (dVar 0) (dCons (dVar 1) dNil))))))
theorem b_route (G : Top K mg) {sp_route_in : DSp} {sp_require_lane : DSp} (h_route_in : DFn P w K mg base 1 G.f_route_in G.fd_route_in ["lane", "target"] sp_route_in) (h_require_lane : DFn P w K mg base 5 G.f_require_lane G.fd_require_lane ["value"] sp_require_lane) (cdv : Value) (A : Around) (outer : List Env) (s : Shared) (H : Hp) (E : XK) (hr : Room 5 (A.deeper (envOfC "route" (defScope s_route) s.heap.objs.size G.f_route cdv))) (hgd : A.guards = some []) :
    DSs (ctxD P w K mg base nm_route "route" (defScope s_route) G.f_route cdv A outer s H E) (defBody s_route) (t_route P w K sp_route_in sp_require_lane) :=
  have S := sc_route
  (dss_cons (ds_expr (de_callX h_require_lane (hr.mono (by omega)) hgd (by rfl) G.g_require_lane G.F_require_lane.kp G.b_require_lane .nil (fun _ _ => .nil) (da_cons (dv 0) da_nil)))
    (dss_cons (ds_expr (de_callX h_require_lane (hr.mono (by omega)) hgd (by rfl) G.g_require_lane G.F_require_lane.kp G.b_require_lane .nil (fun _ _ => .nil) (da_cons (dv 1) da_nil)))
    (dss_one (ds_retW (de_callX h_route_in (hr.mono (by omega)) hgd (by rfl) G.g_route_in G.F_route_in.kp G.b_route_in .nil (fun _ _ => .nil) (da_cons (dv 0) (da_cons (dv 1) da_nil)))))))
theorem ok_route (G : Top K mg) {sp_route_in : DSp} {sp_require_lane : DSp} (h_route_in : DFn P w K mg base 1 G.f_route_in G.fd_route_in ["lane", "target"] sp_route_in) (h_require_lane : DFn P w K mg base 5 G.f_require_lane G.fd_require_lane ["value"] sp_require_lane) {sp : DSp} (len : ∀ ds μ R, sp ds μ R → ds.length = 2)
    (go : ∀ ds μ R, sp ds μ R → t_route P w K sp_route_in sp_require_lane { nx := fun S => R dN S.μ, rt := fun d S => R d S.μ } ⟨ds.map some ++ List.replicate (2 - ds.length) none, μ⟩) : DFn P w K mg base 6 G.f_route G.fd_route ["lane", "target"] sp :=
  dfn_len G.F_route sc_route len (fun cdv A outer s H E hr hgd => b_route G h_route_in h_require_lane cdv A outer s H E hr hgd) go
def t__law_played (P : Program) (w : World) (K : PySem.W.Frag) : DTS :=
  (dSeq (dAsg (dCB gListOf (dCons (dVar 0) dNil)) (dgName 2))
    (dSeq (dFor (diAny (dVar 1)) (dgName 3)
    (dAsg (dIf (dTest (dOp (gInA false) (dVar 3) (dVar 2))) (dSl (dVar 2) dNoPart (dPart (dOrE (dBM "list" (gIndexI true) (dVar 2) (dCons (dVar 3) dNil)) (dBMT (gIndexI false) (dVar 2) (dCons (dVar 3) dNil))))) (dOp (gOr gAdd gAddC) (dVar 2) (dLstX (dCons (dVar 3) dNil)))) (dgName 2)))
    (dRetW P w K (dCB gTupOf (dCons (dVar 2) dNil)))))
theorem b__law_played (G : Top K mg) (cdv : Value) (A : Around) (outer : List Env) (s : Shared) (H : Hp) (E : XK) (hr : Room 0 (A.deeper (envOfC "_law_played" (defScope s__law_played) s.heap.objs.size G.f__law_played cdv))) (hgd : A.guards = some []) :
    DSs (ctxD P w K mg base nm__law_played "_law_played" (defScope s__law_played) G.f__law_played cdv A outer s H E) (defBody s__law_played) (t__law_played P w K) :=
  have S := sc__law_played
  (dss_cons (ds_set (i := 2) S.nd rfl (by first | exact .inl rfl | exact .inr rfl) (de_ct cd_list (by rfl) G.z_list boot_list (da_cons (dv 0) da_nil)))
    (dss_cons (ds_for PassesOwn.never rfl (di_any (dv 1)) (dg_name (i := 3) S.nd rfl (by first | exact .inl rfl | exact .inr rfl))
    (dss_one (ds_set (i := 2) S.nd rfl (by first | exact .inl rfl | exact .inr rfl) (de_if (dt_cmp (od_inA (room_u hr)) (dv 3) (dv 2)) (de_sl (dv 2) do_none (do_some (DE.or (de_bm md_index (dv 2) (da_cons (dv 3) da_nil) PySem.F.plainAttrs_list PySem.F.slot_list_index PySem.F.type_list_index) (de_tindex (dv 2) (da_cons (dv 3) da_nil))))) (de_op od_addX (dv 2) (de_lstX (da_cons (dv 3) da_nil)))))))
    (dss_one (ds_retW (de_ct cd_tup (by rfl) G.z_tuple boot_tuple (da_cons (dv 2) da_nil))))))
theorem ok__law_played (G : Top K mg) {sp : DSp} (len : ∀ ds μ R, sp ds μ R → ds.length = 2)
    (go : ∀ ds μ R, sp ds μ R → t__law_played P w K { nx := fun S => R dN S.μ, rt := fun d S => R d S.μ } ⟨ds.map some ++ List.replicate (4 - ds.length) none, μ⟩) : DFn P w K mg base 1 G.f__law_played G.fd__law_played ["lane_here", "calls_here"] sp :=
  dfn_len G.F__law_played sc__law_played len (fun cdv A outer s H E hr hgd => b__law_played G cdv A outer s H E hr hgd) go
def t__law_pair_right (P : Program) (w : World) (K : PySem.W.Frag) (sp__law_played : DSp) (sp_route : DSp) : DTS :=
  (dSeq (dPar 2 3 (dCons (dCB gRepr (dCons (dLstX (dCons (dVar 0) (dCons (dVar 1) dNil))) dNil)) (dCons (dC (dI 0)) dNil)))
    (dSeq (dWhile (dAnd (dTest (dOp (gCmp fun i j => decide (i < j)) (dVar 3) (dCB (gII2 fun i j => if j < i then j else i) (dCons (dCB gLenA (dCons (dVar 0) dNil)) (dCons (dCB gLenA (dCons (dVar 1) dNil)) dNil))))) (dTest (dOp gEqX (dOp gAt (dVar 0) (dVar 3)) (dOp gAt (dVar 1) (dVar 3)))))
    (dAsg (dOp (gOr gAdd gAddC) (dVar 3) (dC (dI 1))) (dgName 3)))
    (dSeq (dAsg (dOp (gOr gAdd gAddC) (dSl (dVar 0) (dPart (dVar 3)) (dPart (dOp (gOr gAdd gAddC) (dVar 3) (dC (dI 1))))) (dSl (dVar 1) (dPart (dVar 3)) dNoPart)) (dgName 4))
    (dSeq (dIfS (dTest (dOp gNeX (dCB gRepr (dCons (dLstX (dCons (dCallX sp_route [] (dCons (dVar 0) (dCons (dVar 1) dNil))) (dCons (dCallX sp_route [] (dCons (dVar 0) (dCons (dVar 1) dNil))) dNil))) dNil)) (dCB gRepr (dCons (dLstX (dCons (dVar 4) (dCons (dVar 4) dNil))) dNil)))) (dRetW P w K (dC (dB false))) dNext)
    (dRetW P w K (dAndV (dOp gEqX (dCallX sp__law_played [] (dCons (dVar 0) (dCons (dVar 4) dNil))) (dVar 1)) (dOp gEqX (dCB gRepr (dCons (dLstX (dCons (dVar 0) (dCons (dVar 1) dNil))) dNil)) (dVar 2))))))))
theorem b__law_pair_right (G : Top K mg) {sp__law_played : DSp} {sp_route : DSp} (h__law_played : DFn P w K mg base 1 G.f__law_played G.fd__law_played ["lane_here", "calls_here"] sp__law_played) (h_route : DFn P w K mg base 6 G.f_route G.fd_route ["lane", "target"] sp_route) (cdv : Value) (A : Around) (outer : List Env) (s : Shared) (H : Hp) (E : XK) (hr : Room 6 (A.deeper (envOfC "_law_pair_right" (defScope s__law_pair_right) s.heap.objs.size G.f__law_pair_right cdv))) (hgd : A.guards = some []) :
    DSs (ctxD P w K mg base nm__law_pair_right "_law_pair_right" (defScope s__law_pair_right) G.f__law_pair_right cdv A outer s H E) (defBody s__law_pair_right) (t__law_pair_right P w K sp__law_played sp_route) :=
  have S := sc__law_pair_right
  (dss_cons (ds_par (i := 2) (j := 3) rfl S.nd rfl rfl (by decide) rfl rfl (da_cons (de_cb (cd_repr hgd (room_u hr)) (by rfl) G.z_repr boot_repr (da_cons (de_lstX (da_cons (dv 0) (da_cons (dv 1) da_nil))) da_nil)) (da_cons de_int da_nil)) rfl)
    (dss_cons (ds_while PassesOwn.never (DW.t (dw_and (dt_cmp od_lt (dv 3) (de_cb (cd_min2 rfl) (by rfl) G.z_min boot_min (da_cons (de_cb cd_lenA (by rfl) G.z_len boot_len (da_cons (dv 0) da_nil)) (da_cons (de_cb cd_lenA (by rfl) G.z_len boot_len (da_cons (dv 1) da_nil)) da_nil)))) (dw_and1 (dt_cmp (od_eqX (room_u hr)) (de_at (dv 0) (dv 3)) (de_at (dv 1) (dv 3))))))
    (dss_one (ds_set (i := 3) S.nd rfl (by first | exact .inl rfl | exact .inr rfl) (de_op od_addX (dv 3) de_int))))
    (dss_cons (ds_set (i := 4) S.nd rfl (by first | exact .inl rfl | exact .inr rfl) (de_op od_addX (de_sl (dv 0) (do_some (dv 3)) (do_some (de_op od_addX (dv 3) de_int))) (de_sl (dv 1) (do_some (dv 3)) do_none)))
    (dss_cons (ds_if (dt_cmp (od_neX (room_u hr)) (de_cb (cd_repr hgd (room_u hr)) (by rfl) G.z_repr boot_repr (da_cons (de_lstX (da_cons (de_callX h_route (hr.mono (by omega)) hgd (by rfl) G.g_route G.F_route.kp G.b_route .nil (fun _ _ => .nil) (da_cons (dv 0) (da_cons (dv 1) da_nil))) (da_cons (de_callX h_route (hr.mono (by omega)) hgd (by rfl) G.g_route G.F_route.kp G.b_route .nil (fun _ _ => .nil) (da_cons (dv 0) (da_cons (dv 1) da_nil))) da_nil))) da_nil)) (de_cb (cd_repr hgd (room_u hr)) (by rfl) G.z_repr boot_repr (da_cons (de_lstX (da_cons (dv 4) (da_cons (dv 4) da_nil))) da_nil))) (dss_one (ds_retW de_bl)) dss_nil)
    (dss_one (ds_retW (de_and (de_cmp (od_eqX (room_u hr)) (de_callX h__law_played (hr.mono (by omega)) hgd (by rfl) G.g__law_played G.F__law_played.kp G.b__law_played .nil (fun _ _ => .nil) (da_cons (dv 0) (da_cons (dv 4) da_nil))) (dv 1)) (de_one (de_cmp (od_eqX (room_u hr)) (de_cb (cd_repr hgd (room_u hr)) (by rfl) G.z_repr boot_repr (da_cons (de_lstX (da_cons (dv 0) (da_cons (dv 1) da_nil))) da_nil)) (dv 2))))))))))
theorem ok__law_pair_right (G : Top K mg) {sp__law_played : DSp} {sp_route : DSp} (h__law_played : DFn P w K mg base 1 G.f__law_played G.fd__law_played ["lane_here", "calls_here"] sp__law_played) (h_route : DFn P w K mg base 6 G.f_route G.fd_route ["lane", "target"] sp_route) {sp : DSp} (len : ∀ ds μ R, sp ds μ R → ds.length = 2)
    (go : ∀ ds μ R, sp ds μ R → t__law_pair_right P w K sp__law_played sp_route { nx := fun S => R dN S.μ, rt := fun d S => R d S.μ } ⟨ds.map some ++ List.replicate (5 - ds.length) none, μ⟩) : DFn P w K mg base 7 G.f__law_pair_right G.fd__law_pair_right ["one", "other"] sp :=
  dfn_len G.F__law_pair_right sc__law_pair_right len (fun cdv A outer s H E hr hgd => b__law_pair_right G h__law_played h_route cdv A outer s H E hr hgd) go
def t__law_spoon (P : Program) (w : World) (K : PySem.W.Frag) : DTS :=
  (dSeq (dIfS (dTest (dOp (gCmp fun i j => decide (j < i)) (dOp gAt (dVar 0) (dC (dI 0))) (dC (dI 0)))) (dSeq (dAsg (dOp gMod (dOp gAt (dVar 0) (dC (dI 0))) (dVar 1)) (dgName 2))
    (dSeq (dPut (dOp gFdiv (dOp gAt (dVar 0) (dC (dI 0))) (dVar 1)) (dVar 0) (dC (dI 0)))
    (dRetW P w K (dVar 2)))) dNext)
    (dSeq (dPut (dOp (gOr gAdd gAddC) (dOp gAt (dVar 0) (dC (dI 2))) (dC (dI 1))) (dVar 0) (dC (dI 2)))
    (dSeq (dAsg (dOp gMod (dOp gPow (dOp (gOr gAdd gAddC) (dOp gAt (dVar 0) (dC (dI 1))) (dOp (gOr gMul gMulC) (dC (dI 160481183)) (dOp gAt (dVar 0) (dC (dI 2))))) (dC (dI 3))) (dOp (gOr gAdd gAddC) (dOp gPow (dC (dI 10)) (dC (dI 44))) (dC (dI 31)))) (dgName 3))
    (dSeq (dAsg (dOp gMod (dOp gPow (dOp (gOr gAdd gAddC) (dVar 3) (dOp (gOr gMul gMulC) (dC (dI 32452843)) (dOp gAt (dVar 0) (dC (dI 2))))) (dC (dI 3))) (dOp (gOr gAdd gAddC) (dOp gPow (dC (dI 10)) (dC (dI 41))) (dC (dI 37)))) (dgName 3))
    (dRetW P w K (dOp gMod (dOp gFdiv (dVar 3) (dC (dI 786433))) (dVar 1)))))))
theorem b__law_spoon (G : Top K mg) (cdv : Value) (A : Around) (outer : List Env) (s : Shared) (H : Hp) (E : XK) (hr : Room 0 (A.deeper (envOfC "_law_spoon" (defScope s__law_spoon) s.heap.objs.size G.f__law_spoon cdv))) (hgd : A.guards = some []) :
    DSs (ctxD P w K mg base nm__law_spoon "_law_spoon" (defScope s__law_spoon) G.f__law_spoon cdv A outer s H E) (defBody s__law_spoon) (t__law_spoon P w K) :=
  have S := sc__law_spoon
  (dss_cons (ds_if (dt_cmp od_gt (de_at (dv 0) de_int) de_int) (dss_cons (ds_set (i := 2) S.nd rfl (by first | exact .inl rfl | exact .inr rfl) (de_op od_mod (de_at (dv 0) de_int) (dv 1)))
    (dss_cons (ds_put (de_op od_fdiv (de_at (dv 0) de_int) (dv 1)) (dv 0) de_int)
    (dss_one (ds_retW (dv 2))))) dss_nil)
    (dss_cons (ds_put (de_op od_addX (de_at (dv 0) de_int) de_int) (dv 0) de_int)
    (dss_cons (ds_set (i := 3) S.nd rfl (by first | exact .inl rfl | exact .inr rfl) (de_op od_mod (de_op od_pow (de_op od_addX (de_at (dv 0) de_int) (de_op od_mulX de_int (de_at (dv 0) de_int))) de_int) (de_op od_addX (de_op od_pow de_int de_int) de_int)))
    (dss_cons (ds_set (i := 3) S.nd rfl (by first | exact .inl rfl | exact .inr rfl) (de_op od_mod (de_op od_pow (de_op od_addX (dv 3) (de_op od_mulX de_int (de_at (dv 0) de_int))) de_int) (de_op od_addX (de_op od_pow de_int de_int) de_int)))
    (dss_one (ds_retW (de_op od_mod (de_op od_fdiv (dv 3) de_int) (dv 1))))))))
theorem ok__law_spoon (G : Top K mg) {sp : DSp} (len : ∀ ds μ R, sp ds μ R → ds.length = 2)
    (go : ∀ ds μ R, sp ds μ R → t__law_spoon P w K { nx := fun S => R dN S.μ, rt := fun d S => R d S.μ } ⟨ds.map some ++ List.replicate (4 - ds.length) none, μ⟩) : DFn P w K mg base 1 G.f__law_spoon G.fd__law_spoon ["bowl", "many"] sp :=
  dfn_len G.F__law_spoon sc__law_spoon len (fun cdv A outer s H E hr hgd => b__law_spoon G cdv A outer s H E hr hgd) go
def t__law_shuffled (P : Program) (w : World) (K : PySem.W.Frag) (sp__law_spoon : DSp) : DTS :=
  (dSeq (dAsg (dCB gListOf (dCons (dVar 1) dNil)) (dgName 2))
    (dRetW P w K (dLcX (diRange1 (dCons (dCB gLenA (dCons (dVar 2) dNil)) dNil)) (dgName 3) dYes (dBM "list" gPopAt (dVar 2) (dCons (dCallX sp__law_spoon [] (dCons (dVar 0) (dCons (dCB gLenA (dCons (dVar 2) dNil)) dNil))) dNil)) [3])))
theorem b__law_shuffled (G : Top K mg) {sp__law_spoon : DSp} (h__law_spoon : DFn P w K mg base 1 G.f__law_spoon G.fd__law_spoon ["bowl", "many"] sp__law_spoon) (cdv : Value) (A : Around) (outer : List Env) (s : Shared) (H : Hp) (E : XK) (hr : Room 1 (A.deeper (envOfC "_law_shuffled" (defScope s__law_shuffled) s.heap.objs.size G.f__law_shuffled cdv))) (hgd : A.guards = some []) :
    DSs (ctxD P w K mg base nm__law_shuffled "_law_shuffled" (defScope s__law_shuffled) G.f__law_shuffled cdv A outer s H E) (defBody s__law_shuffled) (t__law_shuffled P w K sp__law_spoon) :=
  have S := sc__law_shuffled
  (dss_cons (ds_set (i := 2) S.nd rfl (by first | exact .inl rfl | exact .inr rfl) (de_ct cd_list (by rfl) G.z_list boot_list (da_cons (dv 1) da_nil)))
    (dss_one (ds_retW (de_lcX (own := [("turn", 3)]) (js := [3]) rfl S.nd (di_range1 (by rfl) G.z_range (da_cons (de_cb cd_lenA (by rfl) G.z_len boot_len (da_cons (dv 2) da_nil)) da_nil)) (blkOk_by (N := nm__law_shuffled) (sc := defScope s__law_shuffled) (by decide +kernel)) (fun _ _ _ _ _ => ⟨(dg_name (i := 3) S.nd rfl (by first | exact .inl rfl | exact .inr rfl)), dts_nil, (de_bm md_popAt (dv 2) (da_cons (de_callX h__law_spoon (hr.mono (by omega)) hgd (by rfl) G.g__law_spoon G.F__law_spoon.kp G.b__law_spoon .nil (fun _ _ => .nil) (da_cons (dv 0) (da_cons (de_cb cd_lenA (by rfl) G.z_len boot_len (da_cons (dv 2) da_nil)) da_nil))) da_nil) PySem.F.plainAttrs_list PySem.F.slot_list_pop PySem.F.type_list_pop)⟩) (by decide)))))
theorem ok__law_shuffled (G : Top K mg) {sp__law_spoon : DSp} (h__law_spoon : DFn P w K mg base 1 G.f__law_spoon G.fd__law_spoon ["bowl", "many"] sp__law_spoon) {sp : DSp} (len : ∀ ds μ R, sp ds μ R → ds.length = 2)
    (go : ∀ ds μ R, sp ds μ R → t__law_shuffled P w K sp__law_spoon { nx := fun S => R dN S.μ, rt := fun d S => R d S.μ } ⟨ds.map some ++ List.replicate (4 - ds.length) none, μ⟩) : DFn P w K mg base 2 G.f__law_shuffled G.fd__law_shuffled ["bowl", "items"] sp :=
  dfn_len G.F__law_shuffled sc__law_shuffled len (fun cdv A outer s H E hr hgd => b__law_shuffled G h__law_spoon cdv A outer s H E hr hgd) go
def t__law_pair (P : Program) (w : World) (K : PySem.W.Frag) (sp__law_spoon : DSp) (sp__law_shuffled : DSp) : DTS :=
  (dSeq (dPar 1 2 (dCons (dCallX sp__law_shuffled [] (dCons (dVar 0) (dCons (dLstRg (dRg1 (dC (dI 60)))) dNil))) (dCons (dCallX sp__law_spoon [] (dCons (dVar 0) (dCons (dC (dI 5)) dNil))) dNil)))
    (dSeq (dAsg (dSl (dVar 1) dNoPart (dPart (dOp gAt (dLstX (dCons (dCallX sp__law_spoon [] (dCons (dVar 0) (dCons (dC (dI 61)) dNil))) (dCons (dC (dI 60)) (dCons (dCallX sp__law_spoon [] (dCons (dVar 0) (dCons (dC (dI 6)) dNil))) dNil)))) (dCallX sp__law_spoon [] (dCons (dVar 0) (dCons (dC (dI 3)) dNil)))))) (dgName 3))
    (dSeq (dParN [4, 5] (dCons (dCallX sp__law_spoon [] (dCons (dVar 0) (dCons (dOp (gOr gAdd gAddC) (dCB gLenA (dCons (dVar 3) dNil)) (dC (dI 1))) dNil))) (dCons (dCallX sp__law_shuffled [] (dCons (dVar 0) (dCons (dVar 1) dNil))) dNil)))
    (dSeq (dAsg (dLcX (diAny (dVar 5)) (dgName 6) (dTest (dOp (gInA true) (dVar 6) (dSl (dVar 3) dNoPart (dPart (dVar 4))))) (dVar 6) [6]) (dgName 7))
    (dSeq (dAsg (dLstX (dCons (dSl (dVar 5) dNoPart (dPart (dCallX sp__law_spoon [] (dCons (dVar 0) (dCons (dC (dI 61)) dNil))))) (dCons (dOp (gOr gAdd gAddC) (dSl (dVar 3) dNoPart (dPart (dVar 4))) (dSl (dVar 7) dNoPart (dPart (dCallX sp__law_spoon [] (dCons (dVar 0) (dCons (dOp (gOr gAdd gAddC) (dCB gLenA (dCons (dVar 7) dNil)) (dC (dI 1))) dNil)))))) (dCons (dSl (dVar 3) dNoPart (dPart (dVar 4))) (dCons (dRevS (dVar 3)) dNil))))) (dgName 8))
    (dSeq (dAsg (dOp gAt (dOp (gOr gAdd gAddC) (dVar 8) (dLstX (dCons (dOp (gOr gAdd gAddC) (dSl (dVar 3) dNoPart (dPart (dVar 4))) (dRevS (dSl (dVar 3) (dPart (dVar 4)) dNoPart))) dNil))) (dVar 2)) (dgName 9))
    (dRetW P w K (dOp gAt (dLstX (dCons (dTup (dCons (dCB gTupOf (dCons (dVar 3) dNil)) (dCons (dCB gTupOf (dCons (dVar 9) dNil)) dNil))) (dCons (dTup (dCons (dCB gTupOf (dCons (dVar 9) dNil)) (dCons (dCB gTupOf (dCons (dVar 3) dNil)) dNil))) dNil))) (dCallX sp__law_spoon [] (dCons (dVar 0) (dCons (dC (dI 2)) dNil)))))))))))
theorem b__law_pair (G : Top K mg) {sp__law_spoon : DSp} {sp__law_shuffled : DSp} (h__law_spoon : DFn P w K mg base 1 G.f__law_spoon G.fd__law_spoon ["bowl", "many"] sp__law_spoon) (h__law_shuffled : DFn P w K mg base 2 G.f__law_shuffled G.fd__law_shuffled ["bowl", "items"] sp__law_shuffled) (cdv : Value) (A : Around) (outer : List Env) (s : Shared) (H : Hp) (E : XK) (hr : Room 2 (A.deeper (envOfC "_law_pair" (defScope s__law_pair) s.heap.objs.size G.f__law_pair cdv))) (hgd : A.guards = some []) :
    DSs (ctxD P w K mg base nm__law_pair "_law_pair" (defScope s__law_pair) G.f__law_pair cdv A outer s H E) (defBody s__law_pair) (t__law_pair P w K sp__law_spoon sp__law_shuffled) :=
  have S := sc__law_pair
  (dss_cons (ds_par (i := 1) (j := 2) rfl S.nd rfl rfl (by decide) rfl rfl (da_cons (de_callX h__law_shuffled (hr.mono (by omega)) hgd (by rfl) G.g__law_shuffled G.F__law_shuffled.kp G.b__law_shuffled .nil (fun _ _ => .nil) (da_cons (dv 0) (da_cons (de_lstRg rfl (by rfl) G.z_list (dr_1 (by rfl) G.z_range de_int)) da_nil))) (da_cons (de_callX h__law_spoon (hr.mono (by omega)) hgd (by rfl) G.g__law_spoon G.F__law_spoon.kp G.b__law_spoon .nil (fun _ _ => .nil) (da_cons (dv 0) (da_cons de_int da_nil))) da_nil)) rfl)
    (dss_cons (ds_set (i := 3) S.nd rfl (by first | exact .inl rfl | exact .inr rfl) (de_sl (dv 1) do_none (do_some (de_at (de_lstX (da_cons (de_callX h__law_spoon (hr.mono (by omega)) hgd (by rfl) G.g__law_spoon G.F__law_spoon.kp G.b__law_spoon .nil (fun _ _ => .nil) (da_cons (dv 0) (da_cons de_int da_nil))) (da_cons de_int (da_cons (de_callX h__law_spoon (hr.mono (by omega)) hgd (by rfl) G.g__law_spoon G.F__law_spoon.kp G.b__law_spoon .nil (fun _ _ => .nil) (da_cons (dv 0) (da_cons de_int da_nil))) da_nil)))) (de_callX h__law_spoon (hr.mono (by omega)) hgd (by rfl) G.g__law_spoon G.F__law_spoon.kp G.b__law_spoon .nil (fun _ _ => .nil) (da_cons (dv 0) (da_cons de_int da_nil)))))))
    (dss_cons (ds_parN (js := [4, 5]) rfl (da_cons (de_callX h__law_spoon (hr.mono (by omega)) hgd (by rfl) G.g__law_spoon G.F__law_spoon.kp G.b__law_spoon .nil (fun _ _ => .nil) (da_cons (dv 0) (da_cons (de_op od_addX (de_cb cd_lenA (by rfl) G.z_len boot_len (da_cons (dv 3) da_nil)) de_int) da_nil))) (da_cons (de_callX h__law_shuffled (hr.mono (by omega)) hgd (by rfl) G.g__law_shuffled G.F__law_shuffled.kp G.b__law_shuffled .nil (fun _ _ => .nil) (da_cons (dv 0) (da_cons (dv 1) da_nil))) da_nil)) (pgs_cons (pg_name (i := 4) S.nd rfl (by first | exact .inl rfl | exact .inr rfl)) (pgs_cons (pg_name (i := 5) S.nd rfl (by first | exact .inl rfl | exact .inr rfl)) pgs_nil)))
    (dss_cons (ds_setLcX (i := 7) (hy := rfl) (hyl := rfl) (hsw := sw_true rfl rfl rfl (by decide +kernel)) (own := [("car", 6)]) (js := [6]) (hc := rfl) (hN := S.nd) (hi := (di_any (dv 5))) (ok := (blkOk_by (N := nm__law_pair) (sc := defScope s__law_pair) (by decide +kernel))) (blk := (fun _ _ _ _ _ => ⟨(dg_name (i := 6) S.nd rfl (by first | exact .inl rfl | exact .inr rfl)), (dts_one (dt_cmp (od_notinA (room_u hr)) (dv 6) (de_sl (dv 3) do_none (do_some (dv 4))))), (dv 6)⟩)) (hj := by decide))
    (dss_cons (ds_set (i := 8) S.nd rfl (by first | exact .inl rfl | exact .inr rfl) (de_lstX (da_cons (de_sl (dv 5) do_none (do_some (de_callX h__law_spoon (hr.mono (by omega)) hgd (by rfl) G.g__law_spoon G.F__law_spoon.kp G.b__law_spoon .nil (fun _ _ => .nil) (da_cons (dv 0) (da_cons de_int da_nil))))) (da_cons (de_op od_addX (de_sl (dv 3) do_none (do_some (dv 4))) (de_sl (dv 7) do_none (do_some (de_callX h__law_spoon (hr.mono (by omega)) hgd (by rfl) G.g__law_spoon G.F__law_spoon.kp G.b__law_spoon .nil (fun _ _ => .nil) (da_cons (dv 0) (da_cons (de_op od_addX (de_cb cd_lenA (by rfl) G.z_len boot_len (da_cons (dv 7) da_nil)) de_int) da_nil)))))) (da_cons (de_sl (dv 3) do_none (do_some (dv 4))) (da_cons (de_revS (dv 3)) da_nil))))))
    (dss_cons (ds_set (i := 9) S.nd rfl (by first | exact .inl rfl | exact .inr rfl) (de_at (de_op od_addX (dv 8) (de_lstX (da_cons (de_op od_addX (de_sl (dv 3) do_none (do_some (dv 4))) (de_revS (de_sl (dv 3) (do_some (dv 4)) do_none))) da_nil))) (dv 2)))
    (dss_one (ds_retW (de_at (de_lstX (da_cons (de_tup (da_cons (de_ct cd_tup (by rfl) G.z_tuple boot_tuple (da_cons (dv 3) da_nil)) (da_cons (de_ct cd_tup (by rfl) G.z_tuple boot_tuple (da_cons (dv 9) da_nil)) da_nil))) (da_cons (de_tup (da_cons (de_ct cd_tup (by rfl) G.z_tuple boot_tuple (da_cons (dv 9) da_nil)) (da_cons (de_ct cd_tup (by rfl) G.z_tuple boot_tuple (da_cons (dv 3) da_nil)) da_nil))) da_nil))) (de_callX h__law_spoon (hr.mono (by omega)) hgd (by rfl) G.g__law_spoon G.F__law_spoon.kp G.b__law_spoon .nil (fun _ _ => .nil) (da_cons (dv 0) (da_cons de_int da_nil))))))))))))
theorem ok__law_pair (G : Top K mg) {sp__law_spoon : DSp} {sp__law_shuffled : DSp} (h__law_spoon : DFn P w K mg base 1 G.f__law_spoon G.fd__law_spoon ["bowl", "many"] sp__law_spoon) (h__law_shuffled : DFn P w K mg base 2 G.f__law_shuffled G.fd__law_shuffled ["bowl", "items"] sp__law_shuffled) {sp : DSp} (len : ∀ ds μ R, sp ds μ R → ds.length = 1)
    (go : ∀ ds μ R, sp ds μ R → t__law_pair P w K sp__law_spoon sp__law_shuffled { nx := fun S => R dN S.μ, rt := fun d S => R d S.μ } ⟨ds.map some ++ List.replicate (10 - ds.length) none, μ⟩) : DFn P w K mg base 3 G.f__law_pair G.fd__law_pair ["bowl"] sp :=
  dfn_len G.F__law_pair sc__law_pair len (fun cdv A outer s H E hr hgd => b__law_pair G h__law_spoon h__law_shuffled cdv A outer s H E hr hgd) go
def t__law_bowl (P : Program) (w : World) (K : PySem.W.Frag) : DTS :=
  (dSeq (dAsg (dIf (dTest (dOp (gCmp fun i j => decide (i < j)) (dVar 1) (dCB gLenA (dCons (dVar 0) dNil)))) (dOp gAt (dVar 0) (dVar 1)) (dC (dI 0))) (dgName 2))
    (dRetW P w K (dLstX (dCons (dCB (gII2 fun i j => if j > i then j else i) (dCons (dC (dI 0)) (dCons (dOp gSub (dVar 2) (dOp gPow (dC (dI 10)) (dC (dI 18)))) dNil))) (dCons (dOp (gOr gAdd gAddC) (dOp (gOr gMul gMulC) (dOp gMod (dVar 2) (dOp (gOr gAdd gAddC) (dOp gPow (dC (dI 10)) (dC (dI 39))) (dC (dI 3)))) (dC (dI 1024))) (dVar 1)) (dCons (dC (dI 0)) dNil))))))
theorem b__law_bowl (G : Top K mg) (cdv : Value) (A : Around) (outer : List Env) (s : Shared) (H : Hp) (E : XK) (hr : Room 0 (A.deeper (envOfC "_law_bowl" (defScope s__law_bowl) s.heap.objs.size G.f__law_bowl cdv))) (hgd : A.guards = some []) :
    DSs (ctxD P w K mg base nm__law_bowl "_law_bowl" (defScope s__law_bowl) G.f__law_bowl cdv A outer s H E) (defBody s__law_bowl) (t__law_bowl P w K) :=
  have S := sc__law_bowl
  (dss_cons (ds_set (i := 2) S.nd rfl (by first | exact .inl rfl | exact .inr rfl) (de_if (dt_cmp od_lt (dv 1) (de_cb cd_lenA (by rfl) G.z_len boot_len (da_cons (dv 0) da_nil))) (de_at (dv 0) (dv 1)) de_int))
    (dss_one (ds_retW (de_lstX (da_cons (de_cb (cd_max2 rfl) (by rfl) G.z_max boot_max (da_cons de_int (da_cons (de_op od_sub (dv 2) (de_op od_pow de_int de_int)) da_nil))) (da_cons (de_op od_addX (de_op od_mulX (de_op od_mod (dv 2) (de_op od_addX (de_op od_pow de_int de_int) de_int)) de_int) (dv 1)) (da_cons de_int da_nil)))))))
theorem ok__law_bowl (G : Top K mg) {sp : DSp} (len : ∀ ds μ R, sp ds μ R → ds.length = 2)
    (go : ∀ ds μ R, sp ds μ R → t__law_bowl P w K { nx := fun S => R dN S.μ, rt := fun d S => R d S.μ } ⟨ds.map some ++ List.replicate (3 - ds.length) none, μ⟩) : DFn P w K mg base 1 G.f__law_bowl G.fd__law_bowl ["script", "k"] sp :=
  dfn_len G.F__law_bowl sc__law_bowl len (fun cdv A outer s H E hr hgd => b__law_bowl G cdv A outer s H E hr hgd) go
def t__law_start_right (P : Program) (w : World) (K : PySem.W.Frag) (sp_route : DSp) (sp__law_played : DSp) : DTS :=
  (dSeq (dPar 3 4 (dCons (dDispT (dVar 0) (dLstX (dCons (dTup dNil) dNil))) (dCons (dLstX (dCons (dVar 0) dNil)) dNil)))
    (dSeq (dWhile (dTest (dOp gNeX (dVar 4) (dLstX dNil)))
    (dSeq (dAsg dNewT (dgName 5))
    (dSeq (dFor (diAny (dVar 4)) (dgName 6)
    (dFor (diAny (dVar 1)) (dgName 7)
    (dSeq (dAsg (dCallX sp__law_played [] (dCons (dVar 6) (dCons (dTup (dCons (dVar 7) dNil)) dNil))) (dgName 8))
    (dIfS (dTest (dOp gNinT (dVar 8) (dVar 3))) (dPutT (dOp (gOr gAdd gAddC) (dGetT (dVar 5) (dVar 8) (dLstX dNil)) (dLcX (diAny (dOp gAtT (dVar 3) (dVar 6))) (dgName 9) dYes (dOp (gOr gAdd gAddC) (dVar 9) (dTup (dCons (dVar 7) dNil))) [9])) (dVar 5) (dVar 8)) dNext))))
    (dSeq (dAsg (dCB gSortedT (dCons (dVar 5) dNil)) (dgName 4))
    (dFor (diAny (dVar 4)) (dgName 6)
    (dPutT (dOp gAtT (dVar 5) (dVar 6)) (dVar 3) (dVar 6)))))))
    (dSeq (dFor (diAny (dVar 2)) (dgName 10)
    (dIfS (dTest (dOp gNeX (dCB gRepr (dCons (dLstX (dCons (dCallX sp_route [] (dCons (dVar 0) (dCons (dVar 10) dNil))) dNil)) dNil)) (dCB gRepr (dCons (dOp gAtT (dVar 3) (dVar 10)) dNil)))) (dRetW P w K (dC (dB false))) dNext))
    (dRetW P w K (dC (dB true))))))
theorem b__law_start_right (G : Top K mg) {sp_route : DSp} {sp__law_played : DSp} (h_route : DFn P w K mg base 6 G.f_route G.fd_route ["lane", "target"] sp_route) (h__law_played : DFn P w K mg base 1 G.f__law_played G.fd__law_played ["lane_here", "calls_here"] sp__law_played) (cdv : Value) (A : Around) (outer : List Env) (s : Shared) (H : Hp) (E : XK) (hr : Room 6 (A.deeper (envOfC "_law_start_right" (defScope s__law_start_right) s.heap.objs.size G.f__law_start_right cdv))) (hgd : A.guards = some []) :
    DSs (ctxD P w K mg base nm__law_start_right "_law_start_right" (defScope s__law_start_right) G.f__law_start_right cdv A outer s H E) (defBody s__law_start_right) (t__law_start_right P w K sp_route sp__law_played) :=
  have S := sc__law_start_right
  (dss_cons (ds_par (i := 3) (j := 4) rfl S.nd rfl rfl (by decide) rfl rfl (da_cons (de_dispT (room_u hr) (dv 0) (de_lstX (da_cons (de_tup da_nil) da_nil))) (da_cons (de_lstX (da_cons (dv 0) da_nil)) da_nil)) rfl)
    (dss_cons (ds_while PassesOwn.never (dt_cmp (od_neX (room_u hr)) (dv 4) (de_lstX da_nil))
    (dss_cons (ds_set (i := 5) S.nd rfl (by first | exact .inl rfl | exact .inr rfl) de_newT)
    (dss_cons (ds_for PassesOwn.never rfl (di_any (dv 4)) (dg_name (i := 6) S.nd rfl (by first | exact .inl rfl | exact .inr rfl))
    (dss_one (ds_for PassesOwn.never rfl (di_any (dv 1)) (dg_name (i := 7) S.nd rfl (by first | exact .inl rfl | exact .inr rfl))
    (dss_cons (ds_set (i := 8) S.nd rfl (by first | exact .inl rfl | exact .inr rfl) (de_callX h__law_played (hr.mono (by omega)) hgd (by rfl) G.g__law_played G.F__law_played.kp G.b__law_played .nil (fun _ _ => .nil) (da_cons (dv 6) (da_cons (de_tup (da_cons (dv 7) da_nil)) da_nil))))
    (dss_one (ds_if (dt_cmp (od_ninT (room_u hr)) (dv 8) (dv 3)) (dss_one (ds_putT (room_u hr) (de_op od_addX (de_getT (room_u hr) (dv 5) (dv 8) (de_lstX da_nil) ⟨by rfl, by rfl, by rfl, by rfl⟩) (de_lcX (own := [("way", 9)]) (js := [9]) rfl S.nd (di_any (de_atT (room_u hr) (dv 3) (dv 6))) (blkOk_by (N := nm__law_start_right) (sc := defScope s__law_start_right) (by decide +kernel)) (fun _ _ _ _ _ => ⟨(dg_name (i := 9) S.nd rfl (by first | exact .inl rfl | exact .inr rfl)), dts_nil, (de_op od_addX (dv 9) (de_tup (da_cons (dv 7) da_nil)))⟩) (by decide))) (dv 5) (dv 8))) dss_nil))))))
    (dss_cons (ds_set (i := 4) S.nd rfl (by first | exact .inl rfl | exact .inr rfl) (de_cb (cd_sortedT rfl (room_u hr)) (by rfl) G.z_sorted boot_sorted (da_cons (dv 5) da_nil)))
    (dss_one (ds_for PassesOwn.never rfl (di_any (dv 4)) (dg_name (i := 6) S.nd rfl (by first | exact .inl rfl | exact .inr rfl))
    (dss_one (ds_putT (room_u hr) (de_atT (room_u hr) (dv 5) (dv 6)) (dv 3) (dv 6)))))))))
    (dss_cons (ds_for PassesOwn.never rfl (di_any (dv 2)) (dg_name (i := 10) S.nd rfl (by first | exact .inl rfl | exact .inr rfl))
    (dss_one (ds_if (dt_cmp (od_neX (room_u hr)) (de_cb (cd_repr hgd (room_u hr)) (by rfl) G.z_repr boot_repr (da_cons (de_lstX (da_cons (de_callX h_route (hr.mono (by omega)) hgd (by rfl) G.g_route G.F_route.kp G.b_route .nil (fun _ _ => .nil) (da_cons (dv 0) (da_cons (dv 10) da_nil))) da_nil)) da_nil)) (de_cb (cd_repr hgd (room_u hr)) (by rfl) G.z_repr boot_repr (da_cons (de_atT (room_u hr) (dv 3) (dv 10)) da_nil))) (dss_one (ds_retW de_bl)) dss_nil)))
    (dss_one (ds_retW de_bl)))))
theorem ok__law_start_right (G : Top K mg) {sp_route : DSp} {sp__law_played : DSp} (h_route : DFn P w K mg base 6 G.f_route G.fd_route ["lane", "target"] sp_route) (h__law_played : DFn P w K mg base 1 G.f__law_played G.fd__law_played ["lane_here", "calls_here"] sp__law_played) {sp : DSp} (len : ∀ ds μ R, sp ds μ R → ds.length = 3)
    (go : ∀ ds μ R, sp ds μ R → t__law_start_right P w K sp_route sp__law_played { nx := fun S => R dN S.μ, rt := fun d S => R d S.μ } ⟨ds.map some ++ List.replicate (11 - ds.length) none, μ⟩) : DFn P w K mg base 7 G.f__law_start_right G.fd__law_start_right ["start", "cars", "every"] sp :=
  dfn_len G.F__law_start_right sc__law_start_right len (fun cdv A outer s H E hr hgd => b__law_start_right G h_route h__law_played cdv A outer s H E hr hgd) go
def t__law_all_lanes (P : Program) (w : World) (K : PySem.W.Frag) : DTS :=
  (dSeq (dPar 1 2 (dCons (dLstX (dCons (dTup dNil) dNil)) (dCons (dLstX (dCons (dTup dNil) dNil)) dNil)))
    (dSeq (dFor (diRange1 (dCons (dCB gLenA (dCons (dVar 0) dNil)) dNil)) (dgName 3)
    (dSeq (dAsg (dLstX dNil) (dgName 4))
    (dSeq (dFor (diAny (dVar 2)) (dgName 5)
    (dDrop (dBM "list" gExtend (dVar 4) (dCons (dLcX (diAny (dVar 0)) (dgName 6) (dTest (dOp (gInA true) (dVar 6) (dVar 5))) (dOp (gOr gAdd gAddC) (dVar 5) (dTup (dCons (dVar 6) dNil))) [6]) dNil))))
    (dPar 1 2 (dCons (dOp (gOr gAdd gAddC) (dVar 1) (dVar 4)) (dCons (dVar 4) dNil))))))
    (dRetW P w K (dVar 1))))
theorem b__law_all_lanes (G : Top K mg) (cdv : Value) (A : Around) (outer : List Env) (s : Shared) (H : Hp) (E : XK) (hr : Room 0 (A.deeper (envOfC "_law_all_lanes" (defScope s__law_all_lanes) s.heap.objs.size G.f__law_all_lanes cdv))) (hgd : A.guards = some []) :
    DSs (ctxD P w K mg base nm__law_all_lanes "_law_all_lanes" (defScope s__law_all_lanes) G.f__law_all_lanes cdv A outer s H E) (defBody s__law_all_lanes) (t__law_all_lanes P w K) :=
  have S := sc__law_all_lanes
  (dss_cons (ds_par (i := 1) (j := 2) rfl S.nd rfl rfl (by decide) rfl rfl (da_cons (de_lstX (da_cons (de_tup da_nil) da_nil)) (da_cons (de_lstX (da_cons (de_tup da_nil) da_nil)) da_nil)) rfl)
    (dss_cons (ds_for PassesOwn.never rfl (di_range1 (by rfl) G.z_range (da_cons (de_cb cd_lenA (by rfl) G.z_len boot_len (da_cons (dv 0) da_nil)) da_nil)) (dg_name (i := 3) S.nd rfl (by first | exact .inl rfl | exact .inr rfl))
    (dss_cons (ds_set (i := 4) S.nd rfl (by first | exact .inl rfl | exact .inr rfl) (de_lstX da_nil))
    (dss_cons (ds_for PassesOwn.never rfl (di_any (dv 2)) (dg_name (i := 5) S.nd rfl (by first | exact .inl rfl | exact .inr rfl))
    (dss_one (ds_expr (de_bm md_extend (dv 4) (da_cons (de_lcX (own := [("car", 6)]) (js := [6]) rfl S.nd (di_any (dv 0)) (blkOk_by (N := nm__law_all_lanes) (sc := defScope s__law_all_lanes) (by decide +kernel)) (fun _ _ _ _ _ => ⟨(dg_name (i := 6) S.nd rfl (by first | exact .inl rfl | exact .inr rfl)), (dts_one (dt_cmp (od_notinA (room_u hr)) (dv 6) (dv 5))), (de_op od_addX (dv 5) (de_tup (da_cons (dv 6) da_nil)))⟩) (by decide)) da_nil) PySem.F.plainAttrs_list PySem.F.slot_list_extend PySem.F.type_list_extend))))
    (dss_one (ds_par (i := 1) (j := 2) rfl S.nd rfl rfl (by decide) rfl rfl (da_cons (de_op od_addX (dv 1) (dv 4)) (da_cons (dv 4) da_nil)) rfl)))))
    (dss_one (ds_retW (dv 1)))))
theorem ok__law_all_lanes (G : Top K mg) {sp : DSp} (len : ∀ ds μ R, sp ds μ R → ds.length = 1)
    (go : ∀ ds μ R, sp ds μ R → t__law_all_lanes P w K { nx := fun S => R dN S.μ, rt := fun d S => R d S.μ } ⟨ds.map some ++ List.replicate (7 - ds.length) none, μ⟩) : DFn P w K mg base 1 G.f__law_all_lanes G.fd__law_all_lanes ["cars"] sp :=
  dfn_len G.F__law_all_lanes sc__law_all_lanes len (fun cdv A outer s H E hr hgd => b__law_all_lanes G cdv A outer s H E hr hgd) go
def t_law (P : Program) (w : World) (K : PySem.W.Frag) (sp_route : DSp) (sp__law_pair_right : DSp) (sp__law_pair : DSp) (sp__law_bowl : DSp) (sp__law_start_right : DSp) (sp__law_all_lanes : DSp) : DTS :=
  (dSeq (dAsg (dLstRg (dRg1 (dOp (gOr gAdd gAddC) (dC (dI 3)) (dCB gInt (dCons (dAndV (dOp (gOr gNeX gNeScr) (dVar 0) (dLstX dNil)) (dOp gEqX (dOp gMod (dOp gAt (dVar 0) (dC (dI 0))) (dC (dI 2))) (dC (dI 1)))) dNil))))) (dgName 1))
    (dSeq (dAsg (dCallX sp__law_all_lanes [] (dCons (dVar 1) dNil)) (dgName 2))
    (dSeq (dIfS (dTest (dOp gNeX (dLcX (diAny (dVar 2)) (dgName 3) (dNot (dTest (dCallX sp__law_start_right [] (dCons (dVar 3) (dCons (dVar 1) (dCons (dVar 2) dNil)))))) (dVar 3) [3]) (dLstX dNil))) (dRetW P w K (dC (dB false))) dNext)
    (dSeq (dFor (diRange1 (dCons (dCB (gII2 fun i j => if j > i then j else i) (dCons (dC (dI 1)) (dCons (dCB (gII2 fun i j => if j < i then j else i) (dCons (dC (dI 6)) (dCons (dCB gLenA (dCons (dVar 0) dNil)) dNil))) dNil))) dNil)) (dgName 4)
    (dSeq (dAsg (dCallX sp__law_bowl [] (dCons (dVar 0) (dCons (dVar 4) dNil))) (dgName 5))
    (dFor (diRange1 (dCons (dC (dI 6)) dNil)) (dgName 6)
    (dSeq (dAsg (dCallX sp__law_pair [] (dCons (dVar 5) dNil)) (dgTwo 7 8))
    (dIfS (dOr (dNot (dTest (dCallX sp__law_pair_right [] (dCons (dVar 7) (dCons (dVar 8) dNil))))) (dNot (dTest (dCallX sp__law_pair_right [] (dCons (dVar 8) (dCons (dVar 8) dNil)))))) (dRetW P w K (dC (dB false))) dNext)))))
    (dSeq (dAsg (dTupRg (dRg1 (dC (dI 60)))) (dgName 9))
    (dRetW P w K (dAndV (dOp gEqX (dCallX sp_route [] (dCons (dVar 9) (dCons (dRevT (dVar 9)) dNil))) (dOp (gOr gAdd gAddC) (dTup (dCons (dC (dI 0)) dNil)) (dRevT (dVar 9)))) (dAndV (dOp gEqX (dCallX sp_route [] (dCons (dTup dNil) (dCons (dVar 9) dNil))) (dVar 9)) (dOp gEqX (dCallX sp_route [] (dCons (dVar 9) (dCons (dTup dNil) dNil))) (dTup (dCons (dC (dI 0)) dNil)))))))))))
theorem b_law (G : Top K mg) {sp_route : DSp} {sp__law_pair_right : DSp} {sp__law_pair : DSp} {sp__law_bowl : DSp} {sp__law_start_right : DSp} {sp__law_all_lanes : DSp} (h_route : DFn P w K mg base 6 G.f_route G.fd_route ["lane", "target"] sp_route) (h__law_pair_right : DFn P w K mg base 7 G.f__law_pair_right G.fd__law_pair_right ["one", "other"] sp__law_pair_right) (h__law_pair : DFn P w K mg base 3 G.f__law_pair G.fd__law_pair ["bowl"] sp__law_pair) (h__law_bowl : DFn P w K mg base 1 G.f__law_bowl G.fd__law_bowl ["script", "k"] sp__law_bowl) (h__law_start_right : DFn P w K mg base 7 G.f__law_start_right G.fd__law_start_right ["start", "cars", "every"] sp__law_start_right) (h__law_all_lanes : DFn P w K mg base 1 G.f__law_all_lanes G.fd__law_all_lanes ["cars"] sp__law_all_lanes) (cdv : Value) (A : Around) (outer : List Env) (s : Shared) (H : Hp) (E : XK) (hr : Room 7 (A.deeper (envOfC "law" (defScope s_law) s.heap.objs.size G.f_law cdv))) (hgd : A.guards = some []) :
    DSs (ctxD P w K mg base nm_law "law" (defScope s_law) G.f_law cdv A outer s H E) (defBody s_law) (t_law P w K sp_route sp__law_pair_right sp__law_pair sp__law_bowl sp__law_start_right sp__law_all_lanes) :=
  have S := sc_law
  (dss_cons (ds_set (i := 1) S.nd rfl (by first | exact .inl rfl | exact .inr rfl) (de_lstRg rfl (by rfl) G.z_list (dr_1 (by rfl) G.z_range (de_op od_addX de_int (de_ct cd_int (by rfl) G.z_int boot_int (da_cons (de_and (de_cmp (od_neXS (room_u hr)) (dv 0) (de_lstX da_nil)) (de_one (de_cmp (od_eqX (room_u hr)) (de_op od_mod (de_at (dv 0) de_int) de_int) de_int))) da_nil))))))
    (dss_cons (ds_set (i := 2) S.nd rfl (by first | exact .inl rfl | exact .inr rfl) (de_callX h__law_all_lanes (hr.mono (by omega)) hgd (by rfl) G.g__law_all_lanes G.F__law_all_lanes.kp G.b__law_all_lanes .nil (fun _ _ => .nil) (da_cons (dv 1) da_nil)))
    (dss_cons (ds_if (dt_cmp (od_neX (room_u hr)) (de_lcX (own := [("start", 3)]) (js := [3]) rfl S.nd (di_any (dv 2)) (blkOk_by (N := nm_law) (sc := defScope s_law) (by decide +kernel)) (fun _ _ _ _ _ => ⟨(dg_name (i := 3) S.nd rfl (by first | exact .inl rfl | exact .inr rfl)), (dts_one (dt_not (dt_val (de_callX h__law_start_right (hr.mono (by omega)) hgd (by rfl) G.g__law_start_right G.F__law_start_right.kp G.b__law_start_right .nil (fun _ _ => .nil) (da_cons (dv 3) (da_cons (dv 1) (da_cons (dv 2) da_nil))))))), (dv 3)⟩) (by decide)) (de_lstX da_nil)) (dss_one (ds_retW de_bl)) dss_nil)
    (dss_cons (ds_for PassesOwn.never rfl (di_range1 (by rfl) G.z_range (da_cons (de_cb (cd_max2 rfl) (by rfl) G.z_max boot_max (da_cons de_int (da_cons (de_cb (cd_min2 rfl) (by rfl) G.z_min boot_min (da_cons de_int (da_cons (de_cb cd_lenA (by rfl) G.z_len boot_len (da_cons (dv 0) da_nil)) da_nil))) da_nil))) da_nil)) (dg_name (i := 4) S.nd rfl (by first | exact .inl rfl | exact .inr rfl))
    (dss_cons (ds_set (i := 5) S.nd rfl (by first | exact .inl rfl | exact .inr rfl) (de_callX h__law_bowl (hr.mono (by omega)) hgd (by rfl) G.g__law_bowl G.F__law_bowl.kp G.b__law_bowl .nil (fun _ _ => .nil) (da_cons (dv 0) (da_cons (dv 4) da_nil))))
    (dss_one (ds_for PassesOwn.never rfl (di_range1 (by rfl) G.z_range (da_cons de_int da_nil)) (dg_name (i := 6) S.nd rfl (by first | exact .inl rfl | exact .inr rfl))
    (dss_cons (ds_asg (de_callX h__law_pair (hr.mono (by omega)) hgd (by rfl) G.g__law_pair G.F__law_pair.kp G.b__law_pair .nil (fun _ _ => .nil) (da_cons (dv 5) da_nil)) (dg_two (i := 7) (j := 8) rfl S.nd rfl rfl (by first | exact .inl rfl | exact .inr rfl) (by first | exact .inl rfl | exact .inr rfl)))
    (dss_one (ds_if (DW.t (dw_or (dt_not (dt_val (de_callX h__law_pair_right (hr.mono (by omega)) hgd (by rfl) G.g__law_pair_right G.F__law_pair_right.kp G.b__law_pair_right .nil (fun _ _ => .nil) (da_cons (dv 7) (da_cons (dv 8) da_nil))))) (dw_or1 (dt_not (dt_val (de_callX h__law_pair_right (hr.mono (by omega)) hgd (by rfl) G.g__law_pair_right G.F__law_pair_right.kp G.b__law_pair_right .nil (fun _ _ => .nil) (da_cons (dv 8) (da_cons (dv 8) da_nil)))))))) (dss_one (ds_retW de_bl)) dss_nil)))))))
    (dss_cons (ds_set (i := 9) S.nd rfl (by first | exact .inl rfl | exact .inr rfl) (de_tupRg rfl (by rfl) G.z_tuple (dr_1 (by rfl) G.z_range de_int)))
    (dss_one (ds_retW (de_and (de_cmp (od_eqX (room_u hr)) (de_callX h_route (hr.mono (by omega)) hgd (by rfl) G.g_route G.F_route.kp G.b_route .nil (fun _ _ => .nil) (da_cons (dv 9) (da_cons (de_revT (dv 9)) da_nil))) (de_op od_addX (de_tup (da_cons de_int da_nil)) (de_revT (dv 9)))) (de_and (de_cmp (od_eqX (room_u hr)) (de_callX h_route (hr.mono (by omega)) hgd (by rfl) G.g_route G.F_route.kp G.b_route .nil (fun _ _ => .nil) (da_cons (de_tup da_nil) (da_cons (dv 9) da_nil))) (dv 9)) (de_one (de_cmp (od_eqX (room_u hr)) (de_callX h_route (hr.mono (by omega)) hgd (by rfl) G.g_route G.F_route.kp G.b_route .nil (fun _ _ => .nil) (da_cons (dv 9) (da_cons (de_tup da_nil) da_nil))) (de_tup (da_cons de_int da_nil)))))))))))))
theorem ok_law (G : Top K mg) {sp_route : DSp} {sp__law_pair_right : DSp} {sp__law_pair : DSp} {sp__law_bowl : DSp} {sp__law_start_right : DSp} {sp__law_all_lanes : DSp} (h_route : DFn P w K mg base 6 G.f_route G.fd_route ["lane", "target"] sp_route) (h__law_pair_right : DFn P w K mg base 7 G.f__law_pair_right G.fd__law_pair_right ["one", "other"] sp__law_pair_right) (h__law_pair : DFn P w K mg base 3 G.f__law_pair G.fd__law_pair ["bowl"] sp__law_pair) (h__law_bowl : DFn P w K mg base 1 G.f__law_bowl G.fd__law_bowl ["script", "k"] sp__law_bowl) (h__law_start_right : DFn P w K mg base 7 G.f__law_start_right G.fd__law_start_right ["start", "cars", "every"] sp__law_start_right) (h__law_all_lanes : DFn P w K mg base 1 G.f__law_all_lanes G.fd__law_all_lanes ["cars"] sp__law_all_lanes) {sp : DSp} (len : ∀ ds μ R, sp ds μ R → ds.length = 1)
    (go : ∀ ds μ R, sp ds μ R → t_law P w K sp_route sp__law_pair_right sp__law_pair sp__law_bowl sp__law_start_right sp__law_all_lanes { nx := fun S => R dN S.μ, rt := fun d S => R d S.μ } ⟨ds.map some ++ List.replicate (10 - ds.length) none, μ⟩) : DFn P w K mg base 8 G.f_law G.fd_law ["script"] sp :=
  dfn_len G.F_law sc_law len (fun cdv A outer s H E hr hgd => b_law G h_route h__law_pair_right h__law_pair h__law_bowl h__law_start_right h__law_all_lanes cdv A outer s H E hr hgd) go
end
theorem top_mk {K : PySem.W.Frag} {h : Heap} {mg : Str → Option Value} (X : K.In h) (G : h.Ns mainGlobals mg)
    {f_route_in : Addr} {od_route_in an_route_in : Option Addr} {sl_route_in : Array (Option Value)} {oc_route_in kV_route_in dc_route_in pm_route_in cd_route_in ct_route_in : Value} {f_is_int : Addr} {od_is_int an_is_int : Option Addr} {sl_is_int : Array (Option Value)} {oc_is_int kV_is_int dc_is_int pm_is_int cd_is_int ct_is_int : Value} {f_in_range : Addr} {od_in_range an_in_range : Option Addr} {sl_in_range : Array (Option Value)} {oc_in_range kV_in_range dc_in_range pm_in_range cd_in_range ct_in_range : Value} {f_is_car : Addr} {od_is_car an_is_car : Option Addr} {sl_is_car : Array (Option Value)} {oc_is_car kV_is_car dc_is_car pm_is_car cd_is_car ct_is_car : Value} {f_is_lane : Addr} {od_is_lane an_is_lane : Option Addr} {sl_is_lane : Array (Option Value)} {oc_is_lane kV_is_lane dc_is_lane pm_is_lane cd_is_lane ct_is_lane : Value} {f_require_lane : Addr} {od_require_lane an_require_lane : Option Addr} {sl_require_lane : Array (Option Value)} {oc_require_lane kV_require_lane dc_require_lane pm_require_lane cd_require_lane ct_require_lane : Value} {f_route : Addr} {od_route an_route : Option Addr} {sl_route : Array (Option Value)} {oc_route kV_route dc_route pm_route cd_route ct_route : Value} {f__law_played : Addr} {od__law_played an__law_played : Option Addr} {sl__law_played : Array (Option Value)} {oc__law_played kV__law_played dc__law_played pm__law_played cd__law_played ct__law_played : Value} {f__law_pair_right : Addr} {od__law_pair_right an__law_pair_right : Option Addr} {sl__law_pair_right : Array (Option Value)} {oc__law_pair_right kV__law_pair_right dc__law_pair_right pm__law_pair_right cd__law_pair_right ct__law_pair_right : Value} {f__law_spoon : Addr} {od__law_spoon an__law_spoon : Option Addr} {sl__law_spoon : Array (Option Value)} {oc__law_spoon kV__law_spoon dc__law_spoon pm__law_spoon cd__law_spoon ct__law_spoon : Value} {f__law_shuffled : Addr} {od__law_shuffled an__law_shuffled : Option Addr} {sl__law_shuffled : Array (Option Value)} {oc__law_shuffled kV__law_shuffled dc__law_shuffled pm__law_shuffled cd__law_shuffled ct__law_shuffled : Value} {f__law_pair : Addr} {od__law_pair an__law_pair : Option Addr} {sl__law_pair : Array (Option Value)} {oc__law_pair kV__law_pair dc__law_pair pm__law_pair cd__law_pair ct__law_pair : Value} {f__law_bowl : Addr} {od__law_bowl an__law_bowl : Option Addr} {sl__law_bowl : Array (Option Value)} {oc__law_bowl kV__law_bowl dc__law_bowl pm__law_bowl cd__law_bowl ct__law_bowl : Value} {f__law_start_right : Addr} {od__law_start_right an__law_start_right : Option Addr} {sl__law_start_right : Array (Option Value)} {oc__law_start_right kV__law_start_right dc__law_start_right pm__law_start_right cd__law_start_right ct__law_start_right : Value} {f__law_all_lanes : Addr} {od__law_all_lanes an__law_all_lanes : Option Addr} {sl__law_all_lanes : Array (Option Value)} {oc__law_all_lanes kV__law_all_lanes dc__law_all_lanes pm__law_all_lanes cd__law_all_lanes ct__law_all_lanes : Value} {f_law : Addr} {od_law an_law : Option Addr} {sl_law : Array (Option Value)} {oc_law kV_law dc_law pm_law cd_law ct_law : Value} {t_CARS : Tok}
    (a_route_in : PySem.W.nsIn K mainGlobals "route_in" = some (some (.ref f_route_in))) (l_route_in : K.lookup f_route_in = some ⟨oc_route_in, od_route_in, .func (PySem.W.fnOf "route_in" "route_in" (defArgs s_route_in) (defBody s_route_in) (defScope s_route_in) .none kV_route_in dc_route_in pm_route_in an_route_in cd_route_in ct_route_in), sl_route_in⟩) (c_route_in : PySem.W.codeIn K cd_route_in "route_in" = true) (k_route_in : PySem.W.keepIn K (.ref f_route_in) = true)
    (a_is_int : PySem.W.nsIn K mainGlobals "is_int" = some (some (.ref f_is_int))) (l_is_int : K.lookup f_is_int = some ⟨oc_is_int, od_is_int, .func (PySem.W.fnOf "is_int" "is_int" (defArgs s_is_int) (defBody s_is_int) (defScope s_is_int) .none kV_is_int dc_is_int pm_is_int an_is_int cd_is_int ct_is_int), sl_is_int⟩) (c_is_int : PySem.W.codeIn K cd_is_int "is_int" = true) (k_is_int : PySem.W.keepIn K (.ref f_is_int) = true)
    (a_in_range : PySem.W.nsIn K mainGlobals "in_range" = some (some (.ref f_in_range))) (l_in_range : K.lookup f_in_range = some ⟨oc_in_range, od_in_range, .func (PySem.W.fnOf "in_range" "in_range" (defArgs s_in_range) (defBody s_in_range) (defScope s_in_range) .none kV_in_range dc_in_range pm_in_range an_in_range cd_in_range ct_in_range), sl_in_range⟩) (c_in_range : PySem.W.codeIn K cd_in_range "in_range" = true) (k_in_range : PySem.W.keepIn K (.ref f_in_range) = true)
    (a_is_car : PySem.W.nsIn K mainGlobals "is_car" = some (some (.ref f_is_car))) (l_is_car : K.lookup f_is_car = some ⟨oc_is_car, od_is_car, .func (PySem.W.fnOf "is_car" "is_car" (defArgs s_is_car) (defBody s_is_car) (defScope s_is_car) .none kV_is_car dc_is_car pm_is_car an_is_car cd_is_car ct_is_car), sl_is_car⟩) (c_is_car : PySem.W.codeIn K cd_is_car "is_car" = true) (k_is_car : PySem.W.keepIn K (.ref f_is_car) = true)
    (a_is_lane : PySem.W.nsIn K mainGlobals "is_lane" = some (some (.ref f_is_lane))) (l_is_lane : K.lookup f_is_lane = some ⟨oc_is_lane, od_is_lane, .func (PySem.W.fnOf "is_lane" "is_lane" (defArgs s_is_lane) (defBody s_is_lane) (defScope s_is_lane) .none kV_is_lane dc_is_lane pm_is_lane an_is_lane cd_is_lane ct_is_lane), sl_is_lane⟩) (c_is_lane : PySem.W.codeIn K cd_is_lane "is_lane" = true) (k_is_lane : PySem.W.keepIn K (.ref f_is_lane) = true)
    (a_require_lane : PySem.W.nsIn K mainGlobals "require_lane" = some (some (.ref f_require_lane))) (l_require_lane : K.lookup f_require_lane = some ⟨oc_require_lane, od_require_lane, .func (PySem.W.fnOf "require_lane" "require_lane" (defArgs s_require_lane) (defBody s_require_lane) (defScope s_require_lane) .none kV_require_lane dc_require_lane pm_require_lane an_require_lane cd_require_lane ct_require_lane), sl_require_lane⟩) (c_require_lane : PySem.W.codeIn K cd_require_lane "require_lane" = true) (k_require_lane : PySem.W.keepIn K (.ref f_require_lane) = true)
    (a_route : PySem.W.nsIn K mainGlobals "route" = some (some (.ref f_route))) (l_route : K.lookup f_route = some ⟨oc_route, od_route, .func (PySem.W.fnOf "route" "route" (defArgs s_route) (defBody s_route) (defScope s_route) .none kV_route dc_route pm_route an_route cd_route ct_route), sl_route⟩) (c_route : PySem.W.codeIn K cd_route "route" = true) (k_route : PySem.W.keepIn K (.ref f_route) = true)
    (a__law_played : PySem.W.nsIn K mainGlobals "_law_played" = some (some (.ref f__law_played))) (l__law_played : K.lookup f__law_played = some ⟨oc__law_played, od__law_played, .func (PySem.W.fnOf "_law_played" "_law_played" (defArgs s__law_played) (defBody s__law_played) (defScope s__law_played) .none kV__law_played dc__law_played pm__law_played an__law_played cd__law_played ct__law_played), sl__law_played⟩) (c__law_played : PySem.W.codeIn K cd__law_played "_law_played" = true) (k__law_played : PySem.W.keepIn K (.ref f__law_played) = true)
    (a__law_pair_right : PySem.W.nsIn K mainGlobals "_law_pair_right" = some (some (.ref f__law_pair_right))) (l__law_pair_right : K.lookup f__law_pair_right = some ⟨oc__law_pair_right, od__law_pair_right, .func (PySem.W.fnOf "_law_pair_right" "_law_pair_right" (defArgs s__law_pair_right) (defBody s__law_pair_right) (defScope s__law_pair_right) .none kV__law_pair_right dc__law_pair_right pm__law_pair_right an__law_pair_right cd__law_pair_right ct__law_pair_right), sl__law_pair_right⟩) (c__law_pair_right : PySem.W.codeIn K cd__law_pair_right "_law_pair_right" = true) (k__law_pair_right : PySem.W.keepIn K (.ref f__law_pair_right) = true)
    (a__law_spoon : PySem.W.nsIn K mainGlobals "_law_spoon" = some (some (.ref f__law_spoon))) (l__law_spoon : K.lookup f__law_spoon = some ⟨oc__law_spoon, od__law_spoon, .func (PySem.W.fnOf "_law_spoon" "_law_spoon" (defArgs s__law_spoon) (defBody s__law_spoon) (defScope s__law_spoon) .none kV__law_spoon dc__law_spoon pm__law_spoon an__law_spoon cd__law_spoon ct__law_spoon), sl__law_spoon⟩) (c__law_spoon : PySem.W.codeIn K cd__law_spoon "_law_spoon" = true) (k__law_spoon : PySem.W.keepIn K (.ref f__law_spoon) = true)
    (a__law_shuffled : PySem.W.nsIn K mainGlobals "_law_shuffled" = some (some (.ref f__law_shuffled))) (l__law_shuffled : K.lookup f__law_shuffled = some ⟨oc__law_shuffled, od__law_shuffled, .func (PySem.W.fnOf "_law_shuffled" "_law_shuffled" (defArgs s__law_shuffled) (defBody s__law_shuffled) (defScope s__law_shuffled) .none kV__law_shuffled dc__law_shuffled pm__law_shuffled an__law_shuffled cd__law_shuffled ct__law_shuffled), sl__law_shuffled⟩) (c__law_shuffled : PySem.W.codeIn K cd__law_shuffled "_law_shuffled" = true) (k__law_shuffled : PySem.W.keepIn K (.ref f__law_shuffled) = true)
    (a__law_pair : PySem.W.nsIn K mainGlobals "_law_pair" = some (some (.ref f__law_pair))) (l__law_pair : K.lookup f__law_pair = some ⟨oc__law_pair, od__law_pair, .func (PySem.W.fnOf "_law_pair" "_law_pair" (defArgs s__law_pair) (defBody s__law_pair) (defScope s__law_pair) .none kV__law_pair dc__law_pair pm__law_pair an__law_pair cd__law_pair ct__law_pair), sl__law_pair⟩) (c__law_pair : PySem.W.codeIn K cd__law_pair "_law_pair" = true) (k__law_pair : PySem.W.keepIn K (.ref f__law_pair) = true)
    (a__law_bowl : PySem.W.nsIn K mainGlobals "_law_bowl" = some (some (.ref f__law_bowl))) (l__law_bowl : K.lookup f__law_bowl = some ⟨oc__law_bowl, od__law_bowl, .func (PySem.W.fnOf "_law_bowl" "_law_bowl" (defArgs s__law_bowl) (defBody s__law_bowl) (defScope s__law_bowl) .none kV__law_bowl dc__law_bowl pm__law_bowl an__law_bowl cd__law_bowl ct__law_bowl), sl__law_bowl⟩) (c__law_bowl : PySem.W.codeIn K cd__law_bowl "_law_bowl" = true) (k__law_bowl : PySem.W.keepIn K (.ref f__law_bowl) = true)
    (a__law_start_right : PySem.W.nsIn K mainGlobals "_law_start_right" = some (some (.ref f__law_start_right))) (l__law_start_right : K.lookup f__law_start_right = some ⟨oc__law_start_right, od__law_start_right, .func (PySem.W.fnOf "_law_start_right" "_law_start_right" (defArgs s__law_start_right) (defBody s__law_start_right) (defScope s__law_start_right) .none kV__law_start_right dc__law_start_right pm__law_start_right an__law_start_right cd__law_start_right ct__law_start_right), sl__law_start_right⟩) (c__law_start_right : PySem.W.codeIn K cd__law_start_right "_law_start_right" = true) (k__law_start_right : PySem.W.keepIn K (.ref f__law_start_right) = true)
    (a__law_all_lanes : PySem.W.nsIn K mainGlobals "_law_all_lanes" = some (some (.ref f__law_all_lanes))) (l__law_all_lanes : K.lookup f__law_all_lanes = some ⟨oc__law_all_lanes, od__law_all_lanes, .func (PySem.W.fnOf "_law_all_lanes" "_law_all_lanes" (defArgs s__law_all_lanes) (defBody s__law_all_lanes) (defScope s__law_all_lanes) .none kV__law_all_lanes dc__law_all_lanes pm__law_all_lanes an__law_all_lanes cd__law_all_lanes ct__law_all_lanes), sl__law_all_lanes⟩) (c__law_all_lanes : PySem.W.codeIn K cd__law_all_lanes "_law_all_lanes" = true) (k__law_all_lanes : PySem.W.keepIn K (.ref f__law_all_lanes) = true)
    (a_law : PySem.W.nsIn K mainGlobals "law" = some (some (.ref f_law))) (l_law : K.lookup f_law = some ⟨oc_law, od_law, .func (PySem.W.fnOf "law" "law" (defArgs s_law) (defBody s_law) (defScope s_law) .none kV_law dc_law pm_law an_law cd_law ct_law), sl_law⟩) (c_law : PySem.W.codeIn K cd_law "law" = true) (k_law : PySem.W.keepIn K (.ref f_law) = true)
    (z_all : PySem.W.nsIn K mainGlobals "all" = some none)
    (z_bool : PySem.W.nsIn K mainGlobals "bool" = some none)
    (z_int : PySem.W.nsIn K mainGlobals "int" = some none)
    (z_isinstance : PySem.W.nsIn K mainGlobals "isinstance" = some none)
    (z_len : PySem.W.nsIn K mainGlobals "len" = some none)
    (z_list : PySem.W.nsIn K mainGlobals "list" = some none)
    (z_max : PySem.W.nsIn K mainGlobals "max" = some none)
    (z_min : PySem.W.nsIn K mainGlobals "min" = some none)
    (z_range : PySem.W.nsIn K mainGlobals "range" = some none)
    (z_repr : PySem.W.nsIn K mainGlobals "repr" = some none)
    (z_set : PySem.W.nsIn K mainGlobals "set" = some none)
    (z_sorted : PySem.W.nsIn K mainGlobals "sorted" = some none)
    (z_tuple : PySem.W.nsIn K mainGlobals "tuple" = some none)
    (z_zip : PySem.W.nsIn K mainGlobals "zip" = some none)
    (v_CARS : PySem.W.nsIn K mainGlobals "CARS" = some (some (.int 60 t_CARS))) :
    ∃ T : Top K mg, T.f_law = f_law ∧ T.fd_law = PySem.W.fnOf "law" "law" (defArgs s_law) (defBody s_law) (defScope s_law) .none kV_law dc_law pm_law an_law cd_law ct_law := ⟨{
    f_route_in := f_route_in
    fd_route_in := _
    F_route_in := fun_mk (st := s_route_in) l_route_in c_route_in k_route_in
    b_route_in := (fun_mk (st := s_route_in) l_route_in c_route_in k_route_in).binds fun _ _ _ _ _ _ us hl => match us, hl with | [_, _], _ => rfl
    g_route_in := PySem.W.mg_of X G a_route_in
    f_is_int := f_is_int
    fd_is_int := _
    F_is_int := fun_mk (st := s_is_int) l_is_int c_is_int k_is_int
    b_is_int := (fun_mk (st := s_is_int) l_is_int c_is_int k_is_int).binds fun _ _ _ _ _ _ us hl => match us, hl with | [_], _ => rfl
    g_is_int := PySem.W.mg_of X G a_is_int
    f_in_range := f_in_range
    fd_in_range := _
    F_in_range := fun_mk (st := s_in_range) l_in_range c_in_range k_in_range
    b_in_range := (fun_mk (st := s_in_range) l_in_range c_in_range k_in_range).binds fun _ _ _ _ _ _ us hl => match us, hl with | [_, _, _], _ => rfl
    g_in_range := PySem.W.mg_of X G a_in_range
    f_is_car := f_is_car
    fd_is_car := _
    F_is_car := fun_mk (st := s_is_car) l_is_car c_is_car k_is_car
    b_is_car := (fun_mk (st := s_is_car) l_is_car c_is_car k_is_car).binds fun _ _ _ _ _ _ us hl => match us, hl with | [_], _ => rfl
    g_is_car := PySem.W.mg_of X G a_is_car
    f_is_lane := f_is_lane
    fd_is_lane := _
    F_is_lane := fun_mk (st := s_is_lane) l_is_lane c_is_lane k_is_lane
    b_is_lane := (fun_mk (st := s_is_lane) l_is_lane c_is_lane k_is_lane).binds fun _ _ _ _ _ _ us hl => match us, hl with | [_], _ => rfl
    g_is_lane := PySem.W.mg_of X G a_is_lane
    f_require_lane := f_require_lane
    fd_require_lane := _
    F_require_lane := fun_mk (st := s_require_lane) l_require_lane c_require_lane k_require_lane
    b_require_lane := (fun_mk (st := s_require_lane) l_require_lane c_require_lane k_require_lane).binds fun _ _ _ _ _ _ us hl => match us, hl with | [_], _ => rfl
    g_require_lane := PySem.W.mg_of X G a_require_lane
    f_route := f_route
    fd_route := _
    F_route := fun_mk (st := s_route) l_route c_route k_route
    b_route := (fun_mk (st := s_route) l_route c_route k_route).binds fun _ _ _ _ _ _ us hl => match us, hl with | [_, _], _ => rfl
    g_route := PySem.W.mg_of X G a_route
    f__law_played := f__law_played
    fd__law_played := _
    F__law_played := fun_mk (st := s__law_played) l__law_played c__law_played k__law_played
    b__law_played := (fun_mk (st := s__law_played) l__law_played c__law_played k__law_played).binds fun _ _ _ _ _ _ us hl => match us, hl with | [_, _], _ => rfl
    g__law_played := PySem.W.mg_of X G a__law_played
    f__law_pair_right := f__law_pair_right
    fd__law_pair_right := _
    F__law_pair_right := fun_mk (st := s__law_pair_right) l__law_pair_right c__law_pair_right k__law_pair_right
    b__law_pair_right := (fun_mk (st := s__law_pair_right) l__law_pair_right c__law_pair_right k__law_pair_right).binds fun _ _ _ _ _ _ us hl => match us, hl with | [_, _], _ => rfl
    g__law_pair_right := PySem.W.mg_of X G a__law_pair_right
    f__law_spoon := f__law_spoon
    fd__law_spoon := _
    F__law_spoon := fun_mk (st := s__law_spoon) l__law_spoon c__law_spoon k__law_spoon
    b__law_spoon := (fun_mk (st := s__law_spoon) l__law_spoon c__law_spoon k__law_spoon).binds fun _ _ _ _ _ _ us hl => match us, hl with | [_, _], _ => rfl
    g__law_spoon := PySem.W.mg_of X G a__law_spoon
    f__law_shuffled := f__law_shuffled
    fd__law_shuffled := _
    F__law_shuffled := fun_mk (st := s__law_shuffled) l__law_shuffled c__law_shuffled k__law_shuffled
    b__law_shuffled := (fun_mk (st := s__law_shuffled) l__law_shuffled c__law_shuffled k__law_shuffled).binds fun _ _ _ _ _ _ us hl => match us, hl with | [_, _], _ => rfl
    g__law_shuffled := PySem.W.mg_of X G a__law_shuffled
    f__law_pair := f__law_pair
    fd__law_pair := _
    F__law_pair := fun_mk (st := s__law_pair) l__law_pair c__law_pair k__law_pair
    b__law_pair := (fun_mk (st := s__law_pair) l__law_pair c__law_pair k__law_pair).binds fun _ _ _ _ _ _ us hl => match us, hl with | [_], _ => rfl
    g__law_pair := PySem.W.mg_of X G a__law_pair
    f__law_bowl := f__law_bowl
    fd__law_bowl := _
    F__law_bowl := fun_mk (st := s__law_bowl) l__law_bowl c__law_bowl k__law_bowl
    b__law_bowl := (fun_mk (st := s__law_bowl) l__law_bowl c__law_bowl k__law_bowl).binds fun _ _ _ _ _ _ us hl => match us, hl with | [_, _], _ => rfl
    g__law_bowl := PySem.W.mg_of X G a__law_bowl
    f__law_start_right := f__law_start_right
    fd__law_start_right := _
    F__law_start_right := fun_mk (st := s__law_start_right) l__law_start_right c__law_start_right k__law_start_right
    b__law_start_right := (fun_mk (st := s__law_start_right) l__law_start_right c__law_start_right k__law_start_right).binds fun _ _ _ _ _ _ us hl => match us, hl with | [_, _, _], _ => rfl
    g__law_start_right := PySem.W.mg_of X G a__law_start_right
    f__law_all_lanes := f__law_all_lanes
    fd__law_all_lanes := _
    F__law_all_lanes := fun_mk (st := s__law_all_lanes) l__law_all_lanes c__law_all_lanes k__law_all_lanes
    b__law_all_lanes := (fun_mk (st := s__law_all_lanes) l__law_all_lanes c__law_all_lanes k__law_all_lanes).binds fun _ _ _ _ _ _ us hl => match us, hl with | [_], _ => rfl
    g__law_all_lanes := PySem.W.mg_of X G a__law_all_lanes
    f_law := f_law
    fd_law := _
    F_law := fun_mk (st := s_law) l_law c_law k_law
    b_law := (fun_mk (st := s_law) l_law c_law k_law).binds fun _ _ _ _ _ _ us hl => match us, hl with | [_], _ => rfl
    g_law := PySem.W.mg_of X G a_law
    z_all := PySem.W.mg_none_of X G z_all
    z_bool := PySem.W.mg_none_of X G z_bool
    z_int := PySem.W.mg_none_of X G z_int
    z_isinstance := PySem.W.mg_none_of X G z_isinstance
    z_len := PySem.W.mg_none_of X G z_len
    z_list := PySem.W.mg_none_of X G z_list
    z_max := PySem.W.mg_none_of X G z_max
    z_min := PySem.W.mg_none_of X G z_min
    z_range := PySem.W.mg_none_of X G z_range
    z_repr := PySem.W.mg_none_of X G z_repr
    z_set := PySem.W.mg_none_of X G z_set
    z_sorted := PySem.W.mg_none_of X G z_sorted
    z_tuple := PySem.W.mg_none_of X G z_tuple
    z_zip := PySem.W.mg_none_of X G z_zip
    c_CARS := ⟨t_CARS, PySem.W.mg_of X G v_CARS⟩ }, rfl, rfl⟩
theorem end_mk {P : Program} {w : World} {K : PySem.W.Frag} {h : Heap} {mg : Str → Option Value} {fa : Addr} {sp : DSp} (X : K.In h) (G : h.Ns mainGlobals mg) (hfa : mg "law" = some (.ref fa))
    (ok : ∀ (base : Heap) (T : Top K mg), DFn P w K mg base 8 T.f_law T.fd_law ["script"] sp)
    {f_route_in : Addr} {od_route_in an_route_in : Option Addr} {sl_route_in : Array (Option Value)} {oc_route_in kV_route_in dc_route_in pm_route_in cd_route_in ct_route_in : Value} {f_is_int : Addr} {od_is_int an_is_int : Option Addr} {sl_is_int : Array (Option Value)} {oc_is_int kV_is_int dc_is_int pm_is_int cd_is_int ct_is_int : Value} {f_in_range : Addr} {od_in_range an_in_range : Option Addr} {sl_in_range : Array (Option Value)} {oc_in_range kV_in_range dc_in_range pm_in_range cd_in_range ct_in_range : Value} {f_is_car : Addr} {od_is_car an_is_car : Option Addr} {sl_is_car : Array (Option Value)} {oc_is_car kV_is_car dc_is_car pm_is_car cd_is_car ct_is_car : Value} {f_is_lane : Addr} {od_is_lane an_is_lane : Option Addr} {sl_is_lane : Array (Option Value)} {oc_is_lane kV_is_lane dc_is_lane pm_is_lane cd_is_lane ct_is_lane : Value} {f_require_lane : Addr} {od_require_lane an_require_lane : Option Addr} {sl_require_lane : Array (Option Value)} {oc_require_lane kV_require_lane dc_require_lane pm_require_lane cd_require_lane ct_require_lane : Value} {f_route : Addr} {od_route an_route : Option Addr} {sl_route : Array (Option Value)} {oc_route kV_route dc_route pm_route cd_route ct_route : Value} {f__law_played : Addr} {od__law_played an__law_played : Option Addr} {sl__law_played : Array (Option Value)} {oc__law_played kV__law_played dc__law_played pm__law_played cd__law_played ct__law_played : Value} {f__law_pair_right : Addr} {od__law_pair_right an__law_pair_right : Option Addr} {sl__law_pair_right : Array (Option Value)} {oc__law_pair_right kV__law_pair_right dc__law_pair_right pm__law_pair_right cd__law_pair_right ct__law_pair_right : Value} {f__law_spoon : Addr} {od__law_spoon an__law_spoon : Option Addr} {sl__law_spoon : Array (Option Value)} {oc__law_spoon kV__law_spoon dc__law_spoon pm__law_spoon cd__law_spoon ct__law_spoon : Value} {f__law_shuffled : Addr} {od__law_shuffled an__law_shuffled : Option Addr} {sl__law_shuffled : Array (Option Value)} {oc__law_shuffled kV__law_shuffled dc__law_shuffled pm__law_shuffled cd__law_shuffled ct__law_shuffled : Value} {f__law_pair : Addr} {od__law_pair an__law_pair : Option Addr} {sl__law_pair : Array (Option Value)} {oc__law_pair kV__law_pair dc__law_pair pm__law_pair cd__law_pair ct__law_pair : Value} {f__law_bowl : Addr} {od__law_bowl an__law_bowl : Option Addr} {sl__law_bowl : Array (Option Value)} {oc__law_bowl kV__law_bowl dc__law_bowl pm__law_bowl cd__law_bowl ct__law_bowl : Value} {f__law_start_right : Addr} {od__law_start_right an__law_start_right : Option Addr} {sl__law_start_right : Array (Option Value)} {oc__law_start_right kV__law_start_right dc__law_start_right pm__law_start_right cd__law_start_right ct__law_start_right : Value} {f__law_all_lanes : Addr} {od__law_all_lanes an__law_all_lanes : Option Addr} {sl__law_all_lanes : Array (Option Value)} {oc__law_all_lanes kV__law_all_lanes dc__law_all_lanes pm__law_all_lanes cd__law_all_lanes ct__law_all_lanes : Value} {f_law : Addr} {od_law an_law : Option Addr} {sl_law : Array (Option Value)} {oc_law kV_law dc_law pm_law cd_law ct_law : Value} {t_CARS : Tok}
    (a_route_in : PySem.W.nsIn K mainGlobals "route_in" = some (some (.ref f_route_in))) (l_route_in : K.lookup f_route_in = some ⟨oc_route_in, od_route_in, .func (PySem.W.fnOf "route_in" "route_in" (defArgs s_route_in) (defBody s_route_in) (defScope s_route_in) .none kV_route_in dc_route_in pm_route_in an_route_in cd_route_in ct_route_in), sl_route_in⟩) (c_route_in : PySem.W.codeIn K cd_route_in "route_in" = true) (k_route_in : PySem.W.keepIn K (.ref f_route_in) = true)
    (a_is_int : PySem.W.nsIn K mainGlobals "is_int" = some (some (.ref f_is_int))) (l_is_int : K.lookup f_is_int = some ⟨oc_is_int, od_is_int, .func (PySem.W.fnOf "is_int" "is_int" (defArgs s_is_int) (defBody s_is_int) (defScope s_is_int) .none kV_is_int dc_is_int pm_is_int an_is_int cd_is_int ct_is_int), sl_is_int⟩) (c_is_int : PySem.W.codeIn K cd_is_int "is_int" = true) (k_is_int : PySem.W.keepIn K (.ref f_is_int) = true)
    (a_in_range : PySem.W.nsIn K mainGlobals "in_range" = some (some (.ref f_in_range))) (l_in_range : K.lookup f_in_range = some ⟨oc_in_range, od_in_range, .func (PySem.W.fnOf "in_range" "in_range" (defArgs s_in_range) (defBody s_in_range) (defScope s_in_range) .none kV_in_range dc_in_range pm_in_range an_in_range cd_in_range ct_in_range), sl_in_range⟩) (c_in_range : PySem.W.codeIn K cd_in_range "in_range" = true) (k_in_range : PySem.W.keepIn K (.ref f_in_range) = true)
    (a_is_car : PySem.W.nsIn K mainGlobals "is_car" = some (some (.ref f_is_car))) (l_is_car : K.lookup f_is_car = some ⟨oc_is_car, od_is_car, .func (PySem.W.fnOf "is_car" "is_car" (defArgs s_is_car) (defBody s_is_car) (defScope s_is_car) .none kV_is_car dc_is_car pm_is_car an_is_car cd_is_car ct_is_car), sl_is_car⟩) (c_is_car : PySem.W.codeIn K cd_is_car "is_car" = true) (k_is_car : PySem.W.keepIn K (.ref f_is_car) = true)
    (a_is_lane : PySem.W.nsIn K mainGlobals "is_lane" = some (some (.ref f_is_lane))) (l_is_lane : K.lookup f_is_lane = some ⟨oc_is_lane, od_is_lane, .func (PySem.W.fnOf "is_lane" "is_lane" (defArgs s_is_lane) (defBody s_is_lane) (defScope s_is_lane) .none kV_is_lane dc_is_lane pm_is_lane an_is_lane cd_is_lane ct_is_lane), sl_is_lane⟩) (c_is_lane : PySem.W.codeIn K cd_is_lane "is_lane" = true) (k_is_lane : PySem.W.keepIn K (.ref f_is_lane) = true)
    (a_require_lane : PySem.W.nsIn K mainGlobals "require_lane" = some (some (.ref f_require_lane))) (l_require_lane : K.lookup f_require_lane = some ⟨oc_require_lane, od_require_lane, .func (PySem.W.fnOf "require_lane" "require_lane" (defArgs s_require_lane) (defBody s_require_lane) (defScope s_require_lane) .none kV_require_lane dc_require_lane pm_require_lane an_require_lane cd_require_lane ct_require_lane), sl_require_lane⟩) (c_require_lane : PySem.W.codeIn K cd_require_lane "require_lane" = true) (k_require_lane : PySem.W.keepIn K (.ref f_require_lane) = true)
    (a_route : PySem.W.nsIn K mainGlobals "route" = some (some (.ref f_route))) (l_route : K.lookup f_route = some ⟨oc_route, od_route, .func (PySem.W.fnOf "route" "route" (defArgs s_route) (defBody s_route) (defScope s_route) .none kV_route dc_route pm_route an_route cd_route ct_route), sl_route⟩) (c_route : PySem.W.codeIn K cd_route "route" = true) (k_route : PySem.W.keepIn K (.ref f_route) = true)
    (a__law_played : PySem.W.nsIn K mainGlobals "_law_played" = some (some (.ref f__law_played))) (l__law_played : K.lookup f__law_played = some ⟨oc__law_played, od__law_played, .func (PySem.W.fnOf "_law_played" "_law_played" (defArgs s__law_played) (defBody s__law_played) (defScope s__law_played) .none kV__law_played dc__law_played pm__law_played an__law_played cd__law_played ct__law_played), sl__law_played⟩) (c__law_played : PySem.W.codeIn K cd__law_played "_law_played" = true) (k__law_played : PySem.W.keepIn K (.ref f__law_played) = true)
    (a__law_pair_right : PySem.W.nsIn K mainGlobals "_law_pair_right" = some (some (.ref f__law_pair_right))) (l__law_pair_right : K.lookup f__law_pair_right = some ⟨oc__law_pair_right, od__law_pair_right, .func (PySem.W.fnOf "_law_pair_right" "_law_pair_right" (defArgs s__law_pair_right) (defBody s__law_pair_right) (defScope s__law_pair_right) .none kV__law_pair_right dc__law_pair_right pm__law_pair_right an__law_pair_right cd__law_pair_right ct__law_pair_right), sl__law_pair_right⟩) (c__law_pair_right : PySem.W.codeIn K cd__law_pair_right "_law_pair_right" = true) (k__law_pair_right : PySem.W.keepIn K (.ref f__law_pair_right) = true)
    (a__law_spoon : PySem.W.nsIn K mainGlobals "_law_spoon" = some (some (.ref f__law_spoon))) (l__law_spoon : K.lookup f__law_spoon = some ⟨oc__law_spoon, od__law_spoon, .func (PySem.W.fnOf "_law_spoon" "_law_spoon" (defArgs s__law_spoon) (defBody s__law_spoon) (defScope s__law_spoon) .none kV__law_spoon dc__law_spoon pm__law_spoon an__law_spoon cd__law_spoon ct__law_spoon), sl__law_spoon⟩) (c__law_spoon : PySem.W.codeIn K cd__law_spoon "_law_spoon" = true) (k__law_spoon : PySem.W.keepIn K (.ref f__law_spoon) = true)
    (a__law_shuffled : PySem.W.nsIn K mainGlobals "_law_shuffled" = some (some (.ref f__law_shuffled))) (l__law_shuffled : K.lookup f__law_shuffled = some ⟨oc__law_shuffled, od__law_shuffled, .func (PySem.W.fnOf "_law_shuffled" "_law_shuffled" (defArgs s__law_shuffled) (defBody s__law_shuffled) (defScope s__law_shuffled) .none kV__law_shuffled dc__law_shuffled pm__law_shuffled an__law_shuffled cd__law_shuffled ct__law_shuffled), sl__law_shuffled⟩) (c__law_shuffled : PySem.W.codeIn K cd__law_shuffled "_law_shuffled" = true) (k__law_shuffled : PySem.W.keepIn K (.ref f__law_shuffled) = true)
    (a__law_pair : PySem.W.nsIn K mainGlobals "_law_pair" = some (some (.ref f__law_pair))) (l__law_pair : K.lookup f__law_pair = some ⟨oc__law_pair, od__law_pair, .func (PySem.W.fnOf "_law_pair" "_law_pair" (defArgs s__law_pair) (defBody s__law_pair) (defScope s__law_pair) .none kV__law_pair dc__law_pair pm__law_pair an__law_pair cd__law_pair ct__law_pair), sl__law_pair⟩) (c__law_pair : PySem.W.codeIn K cd__law_pair "_law_pair" = true) (k__law_pair : PySem.W.keepIn K (.ref f__law_pair) = true)
    (a__law_bowl : PySem.W.nsIn K mainGlobals "_law_bowl" = some (some (.ref f__law_bowl))) (l__law_bowl : K.lookup f__law_bowl = some ⟨oc__law_bowl, od__law_bowl, .func (PySem.W.fnOf "_law_bowl" "_law_bowl" (defArgs s__law_bowl) (defBody s__law_bowl) (defScope s__law_bowl) .none kV__law_bowl dc__law_bowl pm__law_bowl an__law_bowl cd__law_bowl ct__law_bowl), sl__law_bowl⟩) (c__law_bowl : PySem.W.codeIn K cd__law_bowl "_law_bowl" = true) (k__law_bowl : PySem.W.keepIn K (.ref f__law_bowl) = true)
    (a__law_start_right : PySem.W.nsIn K mainGlobals "_law_start_right" = some (some (.ref f__law_start_right))) (l__law_start_right : K.lookup f__law_start_right = some ⟨oc__law_start_right, od__law_start_right, .func (PySem.W.fnOf "_law_start_right" "_law_start_right" (defArgs s__law_start_right) (defBody s__law_start_right) (defScope s__law_start_right) .none kV__law_start_right dc__law_start_right pm__law_start_right an__law_start_right cd__law_start_right ct__law_start_right), sl__law_start_right⟩) (c__law_start_right : PySem.W.codeIn K cd__law_start_right "_law_start_right" = true) (k__law_start_right : PySem.W.keepIn K (.ref f__law_start_right) = true)
    (a__law_all_lanes : PySem.W.nsIn K mainGlobals "_law_all_lanes" = some (some (.ref f__law_all_lanes))) (l__law_all_lanes : K.lookup f__law_all_lanes = some ⟨oc__law_all_lanes, od__law_all_lanes, .func (PySem.W.fnOf "_law_all_lanes" "_law_all_lanes" (defArgs s__law_all_lanes) (defBody s__law_all_lanes) (defScope s__law_all_lanes) .none kV__law_all_lanes dc__law_all_lanes pm__law_all_lanes an__law_all_lanes cd__law_all_lanes ct__law_all_lanes), sl__law_all_lanes⟩) (c__law_all_lanes : PySem.W.codeIn K cd__law_all_lanes "_law_all_lanes" = true) (k__law_all_lanes : PySem.W.keepIn K (.ref f__law_all_lanes) = true)
    (a_law : PySem.W.nsIn K mainGlobals "law" = some (some (.ref f_law))) (l_law : K.lookup f_law = some ⟨oc_law, od_law, .func (PySem.W.fnOf "law" "law" (defArgs s_law) (defBody s_law) (defScope s_law) .none kV_law dc_law pm_law an_law cd_law ct_law), sl_law⟩) (c_law : PySem.W.codeIn K cd_law "law" = true) (k_law : PySem.W.keepIn K (.ref f_law) = true)
    (z_all : PySem.W.nsIn K mainGlobals "all" = some none)
    (z_bool : PySem.W.nsIn K mainGlobals "bool" = some none)
    (z_int : PySem.W.nsIn K mainGlobals "int" = some none)
    (z_isinstance : PySem.W.nsIn K mainGlobals "isinstance" = some none)
    (z_len : PySem.W.nsIn K mainGlobals "len" = some none)
    (z_list : PySem.W.nsIn K mainGlobals "list" = some none)
    (z_max : PySem.W.nsIn K mainGlobals "max" = some none)
    (z_min : PySem.W.nsIn K mainGlobals "min" = some none)
    (z_range : PySem.W.nsIn K mainGlobals "range" = some none)
    (z_repr : PySem.W.nsIn K mainGlobals "repr" = some none)
    (z_set : PySem.W.nsIn K mainGlobals "set" = some none)
    (z_sorted : PySem.W.nsIn K mainGlobals "sorted" = some none)
    (z_tuple : PySem.W.nsIn K mainGlobals "tuple" = some none)
    (z_zip : PySem.W.nsIn K mainGlobals "zip" = some none)
    (v_CARS : PySem.W.nsIn K mainGlobals "CARS" = some (some (.int 60 t_CARS))) :
    ∃ fd : FuncData, (∀ (s : Shared) (v : Value), BindsTo s fd ⟨[v], []⟩ [("script", v)]) ∧ ∀ base : Heap, K.In base → base.Ns mainGlobals mg → DFn P w K mg base 8 fa fd ["script"] sp := by
  obtain ⟨T, e1, e2⟩ := top_mk X G a_route_in l_route_in c_route_in k_route_in a_is_int l_is_int c_is_int k_is_int a_in_range l_in_range c_in_range k_in_range a_is_car l_is_car c_is_car k_is_car a_is_lane l_is_lane c_is_lane k_is_lane a_require_lane l_require_lane c_require_lane k_require_lane a_route l_route c_route k_route a__law_played l__law_played c__law_played k__law_played a__law_pair_right l__law_pair_right c__law_pair_right k__law_pair_right a__law_spoon l__law_spoon c__law_spoon k__law_spoon a__law_shuffled l__law_shuffled c__law_shuffled k__law_shuffled a__law_pair l__law_pair c__law_pair k__law_pair a__law_bowl l__law_bowl c__law_bowl k__law_bowl a__law_start_right l__law_start_right c__law_start_right k__law_start_right a__law_all_lanes l__law_all_lanes c__law_all_lanes k__law_all_lanes a_law l_law c_law k_law z_all z_bool z_int z_isinstance z_len z_list z_max z_min z_range z_repr z_set z_sorted z_tuple z_zip v_CARS
  have e := hfa.symm.trans T.g_law
  have e3 : fa = T.f_law := by injection e with e; injection e
  subst e3
  exact ⟨T.fd_law, fun s v => by rw [e2]; exact .of_eq rfl, fun base _ _ => ok base T⟩
end K33

set_option Elab.async false
set_option linter.all false
set_option maxRecDepth 100000
set_option autoImplicit false
set_option maxHeartbeats 8000000
namespace K33
open PySem PySem.Spec L2 DL PyProof.Rows
local macro_rules | `(tactic| walk_at "dl1") => `(tactic| ((first | (with_reducible apply r_seq) | (with_reducible apply r_asg) | ((with_reducible apply r_gn); try simp only [DSt.set, List.set_cons_succ, List.set_cons_zero, List.set_nil]) | ((with_reducible apply r_gtwo); try simp only [DSt.set, List.set_cons_succ, List.set_cons_zero, List.set_nil]) | ((with_reducible apply r_var); · exact rfl) | (with_reducible apply r_c) | (with_reducible apply r_op) | (with_reducible apply r_un) | (with_reducible apply r_test) | (with_reducible apply r_kTest) | (with_reducible apply r_and) | (with_reducible apply r_or) | (with_reducible apply r_not) | (with_reducible apply r_if) | (with_reducible apply r_andV) | (with_reducible apply r_orV) | (with_reducible apply r_notV) | (with_reducible apply r_chain) | (with_reducible apply r_nil) | (with_reducible apply r_cons) | (with_reducible apply r_tup) | ((with_reducible apply r_kTup); (· exact rfl); (· exact Nat.le_of_ble_eq_true rfl)) | ((with_reducible apply r_kLstC); (· exact Nat.le_of_ble_eq_true rfl)) | ((with_reducible apply r_kLst); (· exact rfl); (· exact Nat.le_of_ble_eq_true rfl)) | (with_reducible apply r_cb) | (with_reducible apply r_cmp) | (with_reducible apply r_add) | (with_reducible apply r_sub) | (with_reducible apply r_neg) | (with_reducible apply r_min) | ((with_reducible apply r_isN); · exact rfl) | ((with_reducible apply r_notN); · exact rfl) | ((with_reducible apply r_isi); · decide) | ((with_reducible apply r_len); (· exact rfl); (· exact rfl)) | (with_reducible apply r_call) | (with_reducible apply r_retI) | (with_reducible apply r_for) | (with_reducible apply r_dc) | (with_reducible apply r_iAny) | ((with_reducible apply r_kAny); · exact rfl) | (with_reducible apply r_iR1) | (with_reducible apply r_iR2) | (with_reducible apply r_iEn) | ((with_reducible apply r_kEn); · exact rfl) | (with_reducible apply r_drop) | (with_reducible apply r_retK) | (with_reducible apply r_kRet) | (with_reducible apply r_ifS) | (with_reducible apply r_next) | (with_reducible apply r_yes) | (with_reducible apply r_brk) | (with_reducible apply r_cont)) <;> try dsimp only))
local macro_rules | `(tactic| walk_at "dl") => `(tactic| (repeat walk_at "dl1"))
local macro_rules | `(tactic| walk_at "dlm") => `(tactic| ((first | walk_at "dl1" | ((first | (with_reducible apply r_bm) | (with_reducible apply r_bm0) | (with_reducible apply r_eqI) | (with_reducible apply r_neI) | (with_reducible apply r_eqS) | (with_reducible apply r_neS)) <;> try dsimp only))))
local macro_rules | `(tactic| walk_at "dx") => `(tactic| (repeat walk_at "dlm"))
local macro_rules | `(tactic| walk_at "dy1") => `(tactic| ((first | walk_at "dlm" | ((first | (with_reducible apply r_dput) | (with_reducible apply r_sl) | (with_reducible apply r_noPart) | (with_reducible apply r_part) | (with_reducible apply r_kPart) | (with_reducible apply r_rg1) | (with_reducible apply r_kRg1) | (with_reducible apply r_rg2) | (with_reducible apply r_kRg2) | (with_reducible apply r_rev) | (with_reducible apply r_lstRg) | (with_reducible apply r_tupRg) | (with_reducible apply r_newD) | (with_reducible apply r_par) | ((with_reducible apply r_kPar); try simp only [DSt.set, List.set_cons_succ, List.set_cons_zero, List.set_nil]) | (with_reducible apply r_parN) | ((with_reducible apply r_kParN); (· exact Nat.le_of_ble_eq_true rfl); (· exact rfl); (try simp only [DSt.set, DSt.new, List.set_cons_succ, List.set_cons_zero, List.set_nil, List.cons_append, List.nil_append, List.length_cons, List.length_nil, Nat.reduceAdd]))) <;> try dsimp only))))
local macro_rules | `(tactic| walk_at "dy") => `(tactic| (repeat walk_at "dy1"))
section
variable {P : Program} {w : World} {K : PySem.W.Frag}
abbrev ends (R : DV → List (Option DO) → Prop) : DEnds := { nx := fun S => R dN S.μ, rt := fun d S => R d S.μ }
def isIntD : PyData → Bool
  | .int _ => true
  | _ => false
def sp_is_int : DSp := fun ds μ R => ∃ d, ds = [.imm d] ∧ μ = [] ∧ ∀ μ', R (dB (isIntD d)) μ'
theorem go_is_int : ∀ ds μ R, sp_is_int ds μ R → t_is_int P w K (ends R) ⟨ds.map some ++ List.replicate (1 - ds.length) none, μ⟩ := by
  rintro ds μ R ⟨d, rfl, rfl, h⟩
  unfold t_is_int
  walk_at "dl"
  cases d <;> first
    | (refine r_iteF rfl ?_; walk_at "dl"; exact h _)
    | (refine r_iteT rfl ?_; walk_at "dl"; exact h _)
def sp_in_range : DSp := fun ds μ R => ∃ d lo hi, ds = [.imm d, dI lo, dI hi] ∧ μ = [] ∧ ∀ μ', R (dB (match d with | .int i => decide (lo ≤ i) && decide (i ≤ hi) | _ => false)) μ'
theorem go_in_range : ∀ ds μ R, sp_in_range ds μ R → t_in_range P w K sp_is_int (ends R) ⟨ds.map some ++ List.replicate (3 - ds.length) none, μ⟩ := by
  rintro ds μ R ⟨d, lo, hi, rfl, rfl, h⟩
  unfold t_in_range
  walk_at "dl"
  refine r_callI rfl ⟨d, rfl, rfl, fun μ' => ?_⟩
  walk_at "dl"
  cases d with
  | int i =>
    refine r_iteT rfl ?_
    walk_at "dl"
    refine r_ite (fun e => ?_) (fun e => ?_)
    · walk_at "dl"
      simpa only [e, Bool.true_and] using h []
    · walk_at "dl"
      simpa only [e, Bool.false_and] using h []
  | _ => refine r_iteF rfl ?_; walk_at "dl"; exact h _
def isCarD (d : PyData) : Bool := match d with
  | .int i => decide (0 ≤ i) && decide (i ≤ 59)
  | _ => false
def sp_is_car : DSp := fun ds μ R => ∃ d, ds = [.imm d] ∧ μ = [] ∧ ∀ μ', R (dB (isCarD d)) μ'
theorem go_is_car : ∀ ds μ R, sp_is_car ds μ R → t_is_car P w K sp_in_range (ends R) ⟨ds.map some ++ List.replicate (1 - ds.length) none, μ⟩ := by
  rintro ds μ R ⟨d, rfl, rfl, h⟩
  unfold t_is_car
  walk_at "dl"
  refine r_callI rfl ⟨d, 0, 60 - 1, rfl, rfl, fun μ' => ?_⟩
  walk_at "dl"
  exact h _
/-- calls as data -/
def T (ns : List Int) : PyData := .tuple (ns.map .int)
def okC (ns : List Int) : Prop := 1 ≤ ns.length ∧ ns.length ≤ 200 ∧ ∀ x ∈ ns, 0 ≤ x ∧ x ≤ 59
theorem okC.small {ns : List Int} (h : okC ns) : ns.length < sizeLine := by
  have := h.2.1
  rw [sizeLine_eq]
  omega
theorem ones (ns : List Int) : ((ns.map PyData.int).map DV.imm).map DY.one = ns.map fun x => DY.one (dI x) := by simp
/-- a list of ints as data -/
def L (ns : List Int) : PyData := .list (ns.map .int)
theorem wt_ints : ∀ ns : List Int, (∀ x ∈ ns, 0 ≤ x ∧ x < 1000) → wtAll (ns.map PyData.int) ≤ 15 * ns.length ∧ PyData.showableAll (ns.map PyData.int) = true ∧ PyData.depthAll (ns.map PyData.int) = 0 ∧ PyData.hasDictAll (ns.map PyData.int) = false
  | [], _ => by simp [wtAll, PyData.showableAll, PyData.depthAll, PyData.hasDictAll]
  | x :: ns, h => by
    obtain ⟨h1, h2, h3, h4⟩ := wt_ints ns fun y hy => h y (List.mem_cons_of_mem _ hy)
    obtain ⟨hx0, hx1⟩ := h x List.mem_cons_self
    have hlog : x.natAbs.log2 < 10 := by
      by_cases c : x.natAbs = 0
      · rw [c]; decide
      · exact (Nat.log2_lt c).mpr (by omega)
    refine ⟨?_, ?_, ?_, ?_⟩
    · simp only [List.map_cons, wtAll, wtD, List.length_cons]
      omega
    · simp only [List.map_cons, PyData.showableAll, PyData.showable, h2, Bool.and_true, decide_eq_true_eq]
      omega
    · simp only [List.map_cons, PyData.depthAll, PyData.depth, h3, Nat.max_self]
    · simp only [List.map_cons, PyData.hasDictAll, PyData.hasDict, h4, Bool.or_self]
theorem can_T {ns : List Int} (hl : ns.length ≤ 1000) (h : ∀ x ∈ ns, 0 ≤ x ∧ x < 1000) : CanShow (T ns) := by
  obtain ⟨h1, h2, h3, h4⟩ := wt_ints ns h
  refine ⟨by simpa only [T, PyData.showable] using h2, ?_, ?_, by simpa only [T, PyData.hasDict] using h4⟩
  · simp only [T, wtD]; omega
  · simp only [T, PyData.depth]; omega
/-! ### the draws: _law_bowl, _law_spoon, _law_shuffled -/
def Sh (c x0 x1 x2 : Int) : Prop := 0 ≤ x0 ∧ 0 ≤ x1 ∧ x1 < 10 ^ 45 ∧ 0 ≤ x2 ∧ x2 ≤ c
def shD (x0 x1 x2 : Int) : DO := .lst [dI x0, dI x1, dI x2]
theorem Sh.mono {c c' x0 x1 x2 : Int} (h : Sh c x0 x1 x2) (hc : c ≤ c') : Sh c' x0 x1 x2 := ⟨h.1, h.2.1, h.2.2.1, h.2.2.2.1, Int.le_trans h.2.2.2.2 hc⟩
theorem bits_le {i : Int} (h : i.natAbs < 2 ^ 1000) : Builtin.Int.intBits i ≤ 1000 := by
  unfold Builtin.Int.intBits
  split
  · omega
  · rename_i c
    have hn : i.natAbs ≠ 0 := by
      intro z
      apply c
      have : i = 0 := by omega
      subst this
      rfl
    have := (Nat.log2_lt hn).mpr h
    omega
theorem powOk3 {i : Int} (h0 : 0 ≤ i) (h1 : i < 10 ^ 60) : PowOk i 3 := by
  refine ⟨by omega, ?_⟩
  have : i.natAbs < 2 ^ 1000 := Nat.lt_of_lt_of_le (show i.natAbs < 10 ^ 60 by omega) (by decide)
  have := bits_le this
  omega
theorem divOk {i j : Int} (h0 : 0 < j) (h1 : j < 10 ^ 60) : DivOk i j := by
  refine ⟨h0, ?_⟩
  have : j.natAbs.log2 < 1000 := (Nat.log2_lt (by omega)).mpr (Nat.lt_of_lt_of_le (show j.natAbs < 10 ^ 60 by omega) (by decide))
  omega
theorem mulSmall {i j : Int} (h0 : 0 ≤ i) (h1 : i < 10 ^ 15) : MulOk i j := .inl (.inl ⟨by omega, by omega⟩)
def sp__law_spoon : DSp := fun ds μ R => ∃ b x0 x1 x2 c, ds = [.cell 0, dI b] ∧ μ = [some (shD x0 x1 x2)] ∧ Sh c x0 x1 x2 ∧ c ≤ 10 ^ 9 ∧ 0 < b ∧ b < 10 ^ 45 ∧
  ∀ r y0 y1 y2 μ', 0 ≤ r → r < b → Sh (c + 1) y0 y1 y2 → μ'[0]? = some (some (shD y0 y1 y2)) → R (dI r) μ'
theorem go__law_spoon : ∀ ds μ R, sp__law_spoon ds μ R → t__law_spoon P w K (ends R) ⟨ds.map some ++ List.replicate (4 - ds.length) none, μ⟩ := by
  rintro ds μ R ⟨b, x0, x1, x2, c, rfl, rfl, sh, hc, b0, b1, h⟩
  obtain ⟨s0, s1, s2, s3, s4⟩ := sh
  unfold t__law_spoon
  walk_at "dy"
  refine r_atC (es := [dI x0, dI x1, dI x2]) rfl rfl ?_
  walk_at "dy"
  refine r_ite (fun e => ?_) (fun e => ?_)
  · have e : 0 < x0 := of_decide_eq_true e
    walk_at "dy"
    refine r_atC (es := [dI x0, dI x1, dI x2]) rfl rfl ?_
    walk_at "dy"
    refine r_mod b0 ?_
    walk_at "dy"
    refine r_atC (es := [dI x0, dI x1, dI x2]) rfl rfl ?_
    walk_at "dy"
    refine r_fdiv (divOk b0 (by omega)) ?_
    walk_at "dy"
    refine r_putL (es := [dI x0, dI x1, dI x2]) (i := 0) rfl rfl ?_
    walk_at "dy"
    exact h (x0 % b) (x0 / b) x1 x2 _ (Int.emod_nonneg _ (by omega)) (Int.emod_lt_of_pos _ b0) ⟨Int.ediv_nonneg s0 (by omega), s1, s2, s3, by omega⟩ rfl
  · walk_at "dy"
    refine r_atC (es := [dI x0, dI x1, dI x2]) rfl rfl ?_
    walk_at "dy"
    refine r_putL (es := [dI x0, dI x1, dI x2]) (i := 2) rfl rfl ?_
    walk_at "dy"
    refine r_atC (es := [dI x0, dI x1, dI (x2 + 1)]) rfl rfl ?_
    walk_at "dy"
    refine r_atC (es := [dI x0, dI x1, dI (x2 + 1)]) rfl rfl ?_
    walk_at "dy"
    refine r_mul (mulSmall (by omega) (by omega)) ?_
    walk_at "dy"
    have pA : (10 : Int) ^ (44 : Int).toNat = 10 ^ 44 := rfl
    have pB : (10 : Int) ^ (41 : Int).toNat = 10 ^ 41 := rfl
    refine r_pow (powOk3 (by omega) (by omega)) ?_
    walk_at "dy"
    refine r_pow (by unfold PowOk; decide) ?_
    walk_at "dy"
    rw [pA]
    refine r_mod (by omega) ?_
    walk_at "dy"
    have q0 := Int.emod_nonneg ((x1 + 160481183 * (x2 + 1)) ^ (3 : Int).toNat) (show (10 : Int) ^ 44 + 31 ≠ 0 by omega)
    have q1 := Int.emod_lt_of_pos ((x1 + 160481183 * (x2 + 1)) ^ (3 : Int).toNat) (show (0 : Int) < 10 ^ 44 + 31 by omega)
    generalize (x1 + 160481183 * (x2 + 1)) ^ (3 : Int).toNat % (10 ^ 44 + 31) = mx at q0 q1 ⊢
    refine r_atC (es := [dI x0, dI x1, dI (x2 + 1)]) rfl rfl ?_
    walk_at "dy"
    refine r_mul (mulSmall (by omega) (by omega)) ?_
    walk_at "dy"
    refine r_pow (powOk3 (by omega) (by omega)) ?_
    walk_at "dy"
    refine r_pow (by unfold PowOk; decide) ?_
    walk_at "dy"
    rw [pB]
    refine r_mod (by omega) ?_
    walk_at "dy"
    refine r_fdiv (divOk (by omega) (by omega)) ?_
    walk_at "dy"
    refine r_mod b0 ?_
    walk_at "dy"
    exact h _ x0 x1 (x2 + 1) _ (Int.emod_nonneg _ (by omega)) (Int.emod_lt_of_pos _ b0) ⟨s0, s1, s2, by omega, by omega⟩ rfl
/-! _law_shuffled -/
theorem erase_map {A B : Type} (f : A → B) : ∀ (xs : List A) (n : Nat), (xs.map f).eraseIdx n = (xs.eraseIdx n).map f
  | [], _ => by simp
  | _ :: _, 0 => rfl
  | x :: xs, n + 1 => by simp [erase_map f xs n]
theorem mem_erase {A : Type} {xs : List A} {n : Nat} {x : A} (h : x ∈ xs.eraseIdx n) : x ∈ xs := List.mem_of_mem_eraseIdx h
theorem erase_perm {A : Type} : ∀ (xs : List A) (n : Nat) (h : n < xs.length), (xs[n] :: xs.eraseIdx n).Perm xs
  | _ :: _, 0, _ => .refl _
  | x :: xs, n + 1, h => (List.Perm.swap _ _ _).trans (.cons x (erase_perm xs n (by simpa using h)))
def sp__law_shuffled : DSp := fun ds μ R => ∃ ts x0 x1 x2 c, ds = [.cell 0, .imm (L ts)] ∧ μ = [some (shD x0 x1 x2)] ∧ Sh c x0 x1 x2 ∧ c ≤ 10 ^ 8 ∧ ts.length ≤ 1000 ∧
  ∀ rs y0 y1 y2 μ', rs.Perm ts → Sh (c + ts.length) y0 y1 y2 → μ'[0]? = some (some (shD y0 y1 y2)) → R (.imm (L rs)) μ'
theorem go__law_shuffled : ∀ ds μ R, sp__law_shuffled ds μ R → t__law_shuffled P w K sp__law_spoon (ends R) ⟨ds.map some ++ List.replicate (4 - ds.length) none, μ⟩ := by
  rintro ds μ R ⟨ts, x0, x1, x2, c, rfl, rfl, sh, hc, hl, h⟩
  unfold t__law_shuffled
  walk_at "dy"
  refine r_listOfC rfl ?_
  walk_at "dy"
  refine r_lc ?_
  walk_at "dy"
  have hlen : (List.map DV.imm (List.map PyData.int ts)).length = ts.length := by simp
  rw [hlen]
  refine r_kR1 (by omega) ?_
  refine ⟨fun i acc μ => ∃ (rs left : List Int) (z0 z1 z2 : Int), acc = rs.map PyData.int ∧ rs.length = i ∧ (rs ++ left).Perm ts ∧ Sh (c + i) z0 z1 z2 ∧ μ = [some (shD z0 z1 z2), some (.lst (left.map dI))],
    ⟨[], ts, x0, x1, x2, rfl, rfl, .refl _, by simpa using sh, by simp [DSt.new]⟩, fun _ _ _ _ _ => True.intro, ?_, by rw [range_len, Int.toNat_natCast, sizeLine_eq]; omega, ?_⟩
  · rintro i y acc μ hy ⟨rs, left, z0, z1, z2, rfl, h1, h2, h5, rfl⟩
    obtain ⟨hi, rfl⟩ := range_get hy
    rw [Int.toNat_natCast] at hi
    have h3 : left.length + i = ts.length := by have := h2.length_eq; rw [List.length_append] at this; omega
    walk_at "dy"
    refine r_iteT rfl ?_
    walk_at "dy"
    refine r_kM (es := left.map dI) rfl ?_
    walk_at "dy"
    refine r_callC (k := 0) (o := shD z0 z1 z2) (es' := [.cell 0, dI ((left.map dI).length : Int)]) (by simp) rfl rfl ?_
    refine ⟨_, z0, z1, z2, c + i, rfl, rfl, h5, by omega, by rw [List.length_map]; omega, by rw [List.length_map]; omega, fun r y0 y1 y2 μ' r0 r1 sh' hm => ?_⟩
    refine r_retC (o := shD y0 y1 y2) rfl hm ?_
    rw [List.length_map] at r1
    walk_at "dy"
    have hr : r.toNat < left.length := by omega
    refine r_popAt (es := left.map dI) (d := dI left[r.toNat]) rfl r0 (by omega) (by rw [List.getElem?_map, List.getElem?_eq_getElem hr]; rfl) ?_
    refine ⟨rs ++ [left[r.toNat]], left.eraseIdx r.toNat, y0, y1, y2, by simp, by simp [h1], ?_, ?_, ?_⟩
    · rw [List.append_assoc]
      exact ((erase_perm left r.toNat hr).append_left rs).trans h2
    · have : c + ((i + 1 : Nat) : Int) = c + (i : Int) + 1 := by omega
      rw [this]; exact sh'
    · show [some (shD y0 y1 y2), some (DO.lst ((left.map dI).eraseIdx r.toNat))] = _
      rw [erase_map]
  · rintro acc μ ⟨rs, left, z0, z1, z2, rfl, h1, h2, h5, rfl⟩
    rw [range_len, Int.toNat_natCast] at h1 h5
    have h3 : left = [] := by
      have := h2.length_eq
      rw [List.length_append] at this
      exact List.length_eq_zero_iff.mp (by omega)
    subst h3
    rw [List.append_nil] at h2
    walk_at "dy"
    exact h rs z0 z1 z2 _ h2 h5 rfl
/-! ### _law_bowl -/
def sp__law_bowl : DSp := fun ds μ R => ∃ ns k, ds = [.scr ns, dI k] ∧ μ = [] ∧ 0 ≤ k ∧ k ≤ 100 ∧ ∀ x0 x1 x2 μ', Sh 0 x0 x1 x2 → μ'[0]? = some (some (shD x0 x1 x2)) → R (.cell 0) μ'
theorem go__law_bowl : ∀ ds μ R, sp__law_bowl ds μ R → t__law_bowl P w K (ends R) ⟨ds.map some ++ List.replicate (3 - ds.length) none, μ⟩ := by
  rintro ds μ R ⟨ns, k, rfl, rfl, k0, k1, h⟩
  unfold t__law_bowl
  simp only [List.map_cons, List.map_nil, List.length_cons, List.length_nil, Nat.reduceAdd, Nat.reduceSub, List.replicate, List.cons_append, List.nil_append]
  walk_at "dy"
  have fin : ∀ c : Int, dRetW P w K
          (dLstX
            (dCons
              (dCB (gII2 fun i j => if j > i then j else i)
                (dCons (dC (dI 0)) (dCons (dOp DL.gSub (dVar 2) (dOp gPow (dC (dI 10)) (dC (dI 18)))) dNil)))
              (dCons
                (dOp (gOr gAdd gAddC)
                  (dOp (gOr gMul gMulC)
                    (dOp gMod (dVar 2) (dOp (gOr gAdd gAddC) (dOp gPow (dC (dI 10)) (dC (dI 39))) (dC (dI 3))))
                    (dC (dI 1024)))
                  (dVar 1))
                (dCons (dC (dI 0)) dNil))))
          (ends R) ⟨[some (.scr ns), some (dI k), some (dI c)], []⟩ := by
    intro c
    walk_at "dy"
    refine r_lstC ?_
    walk_at "dy"
    refine r_pow (by unfold PowOk; decide) ?_
    walk_at "dy"
    refine r_pow (by unfold PowOk; decide) ?_
    walk_at "dy"
    have p38 : (10 : Int) ^ (39 : Int).toNat = 10 ^ 39 := rfl
    have p18 : (10 : Int) ^ (18 : Int).toNat = 10 ^ 18 := rfl
    rw [p38, p18]
    have q0 := Int.emod_nonneg c (show (10 : Int) ^ 39 + 3 ≠ 0 by omega)
    have q1 := Int.emod_lt_of_pos c (show (0 : Int) < 10 ^ 39 + 3 by omega)
    refine r_mod (by omega) ?_
    walk_at "dy"
    refine r_mul (.inl (.inr ⟨by omega, by omega⟩)) ?_
    walk_at "dy"
    refine h _ _ _ _ ⟨?_, ?_, ?_, ?_, ?_⟩ rfl
    · split <;> omega
    · omega
    · omega
    · omega
    · omega
  refine r_ite (fun e => ?_) (fun e => ?_)
  · have e : k < ((List.map (fun n => DV.imm (.int n)) ns).length : Int) := of_decide_eq_true e
    rw [List.length_map] at e
    have hk : k.toNat < ns.length := by omega
    walk_at "dy"
    refine r_at (e := dI ns[k.toNat]) rfl rfl ?_ ?_
    · have : atI (ns.map fun n => DV.imm (.int n)) ((k.toNat : Nat) : Int) = some (dI ns[k.toNat]) := atI_nat (by rw [List.getElem?_map, List.getElem?_eq_getElem hk]; rfl)
      rwa [show ((k.toNat : Nat) : Int) = k by omega] at this
    exact fin _
  · walk_at "dy"
    exact fin _

end
end K33

set_option Elab.async false
set_option linter.all false
set_option maxRecDepth 100000
set_option autoImplicit false
set_option maxHeartbeats 8000000
namespace K33
open PySem PySem.Spec L2 DL PyProof.Rows
local macro_rules | `(tactic| walk_at "dl1") => `(tactic| ((first | (with_reducible apply r_seq) | (with_reducible apply r_asg) | ((with_reducible apply r_gn); try simp only [DSt.set, List.set_cons_succ, List.set_cons_zero, List.set_nil]) | ((with_reducible apply r_gtwo); try simp only [DSt.set, List.set_cons_succ, List.set_cons_zero, List.set_nil]) | ((with_reducible apply r_var); · exact rfl) | (with_reducible apply r_c) | (with_reducible apply r_op) | (with_reducible apply r_un) | (with_reducible apply r_test) | (with_reducible apply r_kTest) | (with_reducible apply r_and) | (with_reducible apply r_or) | (with_reducible apply r_not) | (with_reducible apply r_if) | (with_reducible apply r_andV) | (with_reducible apply r_orV) | (with_reducible apply r_notV) | (with_reducible apply r_chain) | (with_reducible apply r_nil) | (with_reducible apply r_cons) | (with_reducible apply r_tup) | ((with_reducible apply r_kTup); (· exact rfl); (· exact Nat.le_of_ble_eq_true rfl)) | ((with_reducible apply r_kLstC); (· exact Nat.le_of_ble_eq_true rfl)) | ((with_reducible apply r_kLst); (· exact rfl); (· exact Nat.le_of_ble_eq_true rfl)) | (with_reducible apply r_cb) | (with_reducible apply r_cmp) | (with_reducible apply r_add) | (with_reducible apply r_sub) | (with_reducible apply r_neg) | (with_reducible apply r_min) | ((with_reducible apply r_isN); · exact rfl) | ((with_reducible apply r_notN); · exact rfl) | ((with_reducible apply r_isi); · decide) | ((with_reducible apply r_len); (· exact rfl); (· exact rfl)) | (with_reducible apply r_call) | (with_reducible apply r_retI) | (with_reducible apply r_for) | (with_reducible apply r_dc) | (with_reducible apply r_iAny) | ((with_reducible apply r_kAny); · exact rfl) | (with_reducible apply r_iR1) | (with_reducible apply r_iR2) | (with_reducible apply r_iEn) | ((with_reducible apply r_kEn); · exact rfl) | (with_reducible apply r_drop) | (with_reducible apply r_retK) | (with_reducible apply r_kRet) | (with_reducible apply r_ifS) | (with_reducible apply r_next) | (with_reducible apply r_yes) | (with_reducible apply r_brk) | (with_reducible apply r_cont)) <;> try dsimp only))
local macro_rules | `(tactic| walk_at "dl") => `(tactic| (repeat walk_at "dl1"))
local macro_rules | `(tactic| walk_at "dlm") => `(tactic| ((first | walk_at "dl1" | ((first | (with_reducible apply r_bm) | (with_reducible apply r_bm0) | (with_reducible apply r_eqI) | (with_reducible apply r_neI) | (with_reducible apply r_eqS) | (with_reducible apply r_neS)) <;> try dsimp only))))
local macro_rules | `(tactic| walk_at "dx") => `(tactic| (repeat walk_at "dlm"))
local macro_rules | `(tactic| walk_at "dy1") => `(tactic| ((first | walk_at "dlm" | ((first | (with_reducible apply r_dput) | (with_reducible apply r_sl) | (with_reducible apply r_noPart) | (with_reducible apply r_part) | (with_reducible apply r_kPart) | (with_reducible apply r_rg1) | (with_reducible apply r_kRg1) | (with_reducible apply r_rg2) | (with_reducible apply r_kRg2) | (with_reducible apply r_rev) | (with_reducible apply r_lstRg) | (with_reducible apply r_tupRg) | (with_reducible apply r_newD) | (with_reducible apply r_par) | ((with_reducible apply r_kPar); try simp only [DSt.set, List.set_cons_succ, List.set_cons_zero, List.set_nil]) | (with_reducible apply r_parN) | ((with_reducible apply r_kParN); (· exact Nat.le_of_ble_eq_true rfl); (· exact rfl); (try simp only [DSt.set, DSt.new, List.set_cons_succ, List.set_cons_zero, List.set_nil, List.cons_append, List.nil_append, List.length_cons, List.length_nil, Nat.reduceAdd]))) <;> try dsimp only))))
local macro_rules | `(tactic| walk_at "dy") => `(tactic| (repeat walk_at "dy1"))
section
variable {P : Program} {w : World} {K : PySem.W.Frag}
theorem ints_allI (ns : List Int) : allI ((ns.map PyData.int).map DV.imm) = some ns := by rw [List.map_map]; exact allI_map ns
def In60 (ns : List Int) : Prop := ∀ x ∈ ns, 0 ≤ x ∧ x ≤ 59
/-- the row behind one call -/
def movedL (row : List Int) (x : Int) : List Int := if x ∈ row then row.take (row.idxOf x) else row ++ [x]
/-! ### plain: the first clear moment of a row -/
/-- how many cars stand in front of the first called one -/
def fr (ns : List Int) : List Int → Nat
  | [] => 0
  | x :: xs => if x ∈ ns then 0 else fr ns xs + 1
theorem fr_le (ns : List Int) : ∀ row : List Int, fr ns row ≤ row.length
  | [] => Nat.le_refl _
  | x :: xs => by
    have := fr_le ns xs
    unfold fr
    split
    · omega
    · rw [List.length_cons]; omega
theorem fr_take (ns : List Int) : ∀ row : List Int, ∀ x ∈ row.take (fr ns row), x ∉ ns
  | [], _, h => by simp [fr] at h
  | y :: ys, x, h => by
    unfold fr at h
    split at h
    · cases h
    · rename_i c
      rw [List.take_succ_cons] at h
      rcases List.mem_cons.mp h with rfl | z
      · exact c
      · exact fr_take ns ys x z
theorem fr_at (ns : List Int) : ∀ row : List Int, ∀ h : fr ns row < row.length, row[fr ns row] ∈ ns
  | [], h => by simp [fr] at h
  | y :: ys, h => by
    unfold fr at h ⊢
    split
    · rename_i c; simpa using c
    · rename_i c
      rw [if_neg c] at h
      simpa using fr_at ns ys (by simpa using h)
def play (row xs : List Int) : List Int := xs.foldl movedL row
theorem play_append (row xs ys : List Int) : play row (xs ++ ys) = play (play row xs) ys := List.foldl_append
theorem play_cons (row : List Int) (x : Int) (xs : List Int) : play row (x :: xs) = play (movedL row x) xs := rfl
theorem moved_len (row : List Int) (x : Int) : (movedL row x).length ≤ row.length + 1 := by
  unfold movedL
  split
  · rw [List.length_take]; omega
  · simp
theorem play_len (xs : List Int) : ∀ row : List Int, (play row xs).length ≤ row.length + xs.length := by
  induction xs with
  | nil => exact fun row => Nat.le_refl _
  | cons x xs ih =>
    intro row
    have := ih (movedL row x)
    have := moved_len row x
    rw [play_cons, List.length_cons]
    omega
theorem moved_mem {row : List Int} {x y : Int} (h : y ∈ movedL row x) : y ∈ row ∨ y = x := by
  unfold movedL at h
  split at h
  · exact .inl (List.mem_of_mem_take h)
  · simpa using h
theorem play_mem {xs : List Int} : ∀ {row : List Int} {y : Int}, y ∈ play row xs → y ∈ row ∨ y ∈ xs := by
  induction xs with
  | nil => exact fun h => .inl h
  | cons x xs ih =>
    intro row y h
    rcases ih (row := movedL row x) h with h | h
    · rcases moved_mem h with h | h
      · exact .inl h
      · exact .inr (by simp [h])
    · exact .inr (by simp [h])
theorem moved_front {front rest : List Int} {x : Int} (h : x ∉ front) : movedL (front ++ rest) x = front ++ movedL rest x := by
  unfold movedL
  by_cases c : x ∈ rest
  · rw [if_pos (by simp [c]), if_pos c, List.idxOf_append, if_neg h, List.take_append, List.take_of_length_le (by omega)]
    congr 2
    omega
  · rw [if_neg (by simp [h, c]), if_neg c, List.append_assoc]
theorem play_front {front : List Int} {xs : List Int} : ∀ {rest : List Int}, (∀ x ∈ xs, x ∉ front) → play (front ++ rest) xs = front ++ play rest xs := by
  induction xs with
  | nil => exact fun _ => rfl
  | cons x xs ih =>
    intro rest h
    rw [play_cons, play_cons, moved_front (h x (by simp)), ih fun y hy => h y (by simp [hy])]
theorem moved_same (x : Int) (r : List Int) : movedL (x :: r) x = [] := by
  unfold movedL
  rw [if_pos (by simp), List.idxOf_cons_self, List.take_zero]
theorem moved_other {x y : Int} (r : List Int) (h : x ≠ y) : movedL (x :: r) y = x :: movedL r y := moved_front (front := [x]) (rest := r) (by simpa using fun z => h z.symm)
/-- behind its innermost car a lane does not matter -/
theorem play_inner {x : Int} {xs : List Int} : ∀ {r r' : List Int}, x ∈ xs → play (x :: r) xs = play (x :: r') xs := by
  induction xs with
  | nil => exact fun h => nomatch h
  | cons y xs ih =>
    intro r r' h
    rw [play_cons, play_cons]
    by_cases e : x = y
    · subst e; rw [moved_same, moved_same]
    · rw [moved_other r e, moved_other r' e]
      exact ih ((List.mem_cons.mp h).resolve_left e)
def laneC : Option Int → List Int
  | none => []
  | some x => [x]
/-- the lane behind a day, from a case -/
def eC (ns : List Int) (c : Option Int) : List Int := play (laneC c) ns
def fM (ns : List Int) (c : Option Int) : Option Int := (eC ns c).head?
def Cs (ns : List Int) (c : Option Int) : Prop := ∀ x, c = some x → x ∈ ns
theorem play_case {ns rest : List Int} (h : Cs ns rest.head?) : play rest ns = eC ns rest.head? := by
  cases rest with
  | nil => rfl
  | cons x r => exact play_inner (r' := []) (h x rfl)
def sw (x : Int) (c : Option Int) : Option Int := if c = none then some x else if c = some x then none else c
theorem sw_sw (x : Int) (c : Option Int) : sw x (sw x c) = c := by
  unfold sw
  cases c with
  | none => simp
  | some y =>
    by_cases e : y = x
    · subst e; simp
    · simp [e]
theorem moved_head (row : List Int) (x : Int) : (movedL row x).head? = sw x row.head? := by
  cases row with
  | nil => simp [movedL, sw]
  | cons y r =>
    by_cases e : y = x
    · subst e; rw [moved_same]; simp [sw]
    · rw [moved_other r e]; simp [sw, e]
theorem play_head (xs : List Int) : ∀ row : List Int, (play row xs).head? = xs.foldl (fun c x => sw x c) row.head? := by
  induction xs with
  | nil => exact fun _ => rfl
  | cons x xs ih => exact fun row => by rw [play_cons, ih, moved_head]; rfl
theorem fold_inj (xs : List Int) : ∀ {c d : Option Int}, xs.foldl (fun c x => sw x c) c = xs.foldl (fun c x => sw x c) d → c = d := by
  induction xs with
  | nil => exact fun h => h
  | cons x xs ih =>
    intro c d h
    have := ih (c := sw x c) (d := sw x d) h
    rw [← sw_sw x c, this, sw_sw]
theorem lane_head (c : Option Int) : (laneC c).head? = c := by cases c <;> rfl
theorem fM_inj {ns : List Int} {c d : Option Int} (h : fM ns c = fM ns d) : c = d := by
  unfold fM eC at h
  rw [play_head, play_head, lane_head, lane_head] at h
  exact fold_inj ns h
theorem eC_mem {ns : List Int} {c : Option Int} (h : Cs ns c) : ∀ y ∈ eC ns c, y ∈ ns := fun y hy => by
  rcases play_mem hy with z | z
  · cases c with
    | none => simp [laneC] at z
    | some x => obtain rfl : y = x := by simpa [laneC] using z
                exact h y rfl
  · exact z
theorem Cs.next {ns : List Int} {c : Option Int} (h : Cs ns c) : Cs ns (fM ns c) := fun x hx => eC_mem h x (List.mem_of_head? hx)
def itc (ns : List Int) (c : Option Int) : Nat → Option Int
  | 0 => c
  | k + 1 => fM ns (itc ns c k)
theorem itc_in {ns : List Int} {c : Option Int} (h : Cs ns c) : ∀ k, Cs ns (itc ns c k)
  | 0 => h
  | k + 1 => (itc_in h k).next
theorem itc_back {ns : List Int} {c : Option Int} (i j : Nat) : ∀ k, itc ns c (i + k) = itc ns c (j + k) → itc ns c i = itc ns c j
  | 0, h => h
  | k + 1, h => itc_back i j k (fM_inj h)
/-- not back within i days -/
def FreeC (ns : List Int) (c : Option Int) (i : Nat) : Prop := ∀ j, 1 ≤ j → j ≤ i → itc ns c j ≠ c
theorem FreeC.ne {ns : List Int} {c : Option Int} {i : Nat} (h : FreeC ns c i) {a b : Nat} (hab : a < b) (hb : b ≤ i) : itc ns c a ≠ itc ns c b := by
  intro e
  refine h (b - a) (by omega) (by omega) ?_
  have := itc_back 0 (b - a) a (by rw [Nat.zero_add, show b - a + a = b by omega]; exact e)
  exact this.symm
theorem pairwise_nodup' {D : Type} {f : Nat → D} : ∀ n, (∀ a b, a < b → b < n → f a ≠ f b) → ((List.range n).map f).Nodup
  | 0, _ => List.nodup_nil
  | n + 1, h => by
    rw [List.range_succ, List.map_append, List.nodup_append]
    refine ⟨pairwise_nodup' n fun a b x y => h a b x (by omega), by simp, ?_⟩
    intro x hx y hy e
    obtain ⟨a, ha, rfl⟩ := List.mem_map.mp hx
    simp only [List.map_cons, List.map_nil, List.mem_singleton] at hy
    subst hy
    exact h a n (List.mem_range.mp ha) (by omega) e
theorem FreeC.le {ns : List Int} {c : Option Int} {i : Nat} (hc : Cs ns c) (h : FreeC ns c i) : i ≤ ns.length := by
  have := nodup_le (xs := none :: ns.map some) (pairwise_nodup' (f := itc ns c) (i + 1) fun a b x y => h.ne x (by omega)) fun k hk => by
    obtain ⟨a, _, rfl⟩ := List.mem_map.mp hk
    have z := itc_in hc a
    cases q : itc ns c a with
    | none => simp
    | some x => simp [z x q]
  rw [List.length_map, List.length_range, List.length_cons, List.length_map] at this
  omega
def PerC (ns : List Int) (c : Option Int) (m : Nat) : Prop := 1 ≤ m ∧ itc ns c m = c ∧ FreeC ns c (m - 1)
theorem PerC.shift {ns : List Int} {c : Option Int} {m : Nat} (h : PerC ns c m) : ∀ i, itc ns c (i + m) = itc ns c i
  | 0 => by rw [Nat.zero_add]; exact h.2.1
  | i + 1 => by
    rw [show i + 1 + m = i + m + 1 by omega]
    show fM ns _ = fM ns _
    rw [h.shift i]
theorem PerC.at {ns : List Int} {c : Option Int} {m : Nat} (h : PerC ns c m) (q r : Nat) : itc ns c (m * q + r) = itc ns c r := by
  induction q with
  | zero => simp
  | succ q ih => rw [Nat.mul_succ, show m * q + m + r = m * q + r + m by omega, h.shift, ih]
theorem PerC.mod {ns : List Int} {c : Option Int} {m : Nat} (h : PerC ns c m) (k : Nat) : itc ns c (k % m) = itc ns c k := by
  have := h.at (k / m) (k % m)
  rw [Nat.div_add_mod] at this
  exact this.symm
def c0 (ns row : List Int) : Option Int := row[fr ns row]?
theorem c0_in (ns row : List Int) : Cs ns (c0 ns row) := fun x hx => by
  obtain ⟨a, b⟩ := List.getElem?_eq_some_iff.mp hx
  have := fr_at ns row a
  rwa [b] at this
theorem c0_head (ns row : List Int) : (row.drop (fr ns row)).head? = c0 ns row := by
  rw [List.head?_drop]
  rfl
def dayM (ns row : List Int) : Nat → List Int
  | 0 => row
  | k + 1 => row.take (fr ns row) ++ eC ns (itc ns (c0 ns row) k)
theorem dayM_next (ns row : List Int) : ∀ k, play (dayM ns row k) ns = dayM ns row (k + 1)
  | 0 => by
    have e : row = row.take (fr ns row) ++ row.drop (fr ns row) := (List.take_append_drop _ _).symm
    show play row ns = _
    conv => lhs; rw [e]
    rw [play_front (fun x hx z => fr_take ns row x z hx), play_case (by rw [c0_head]; exact c0_in ns row), c0_head]
    rfl
  | k + 1 => by
    have hc := itc_in (c0_in ns row) k
    show play (row.take (fr ns row) ++ eC ns (itc ns (c0 ns row) k)) ns = _
    rw [play_front (fun x hx z => fr_take ns row x z hx), play_case (rest := eC ns (itc ns (c0 ns row) k)) hc.next]
    rfl
theorem r_retN {S : DSt} {R : DV → DSt → Prop} {o : DO} {j : Nat} {μ' : List (Option DO)} (hb : o.bare = true) (hm : μ'[j]? = some (some o)) (q : R (.cell S.μ.length) ⟨S.ρ, S.μ ++ [some o]⟩) : retK R S [] (.cell j) μ' := by
  unfold retK
  dsimp only
  rw [dif_neg (by simp), hm]
  dsimp only
  rw [if_pos hb]
  exact q
theorem r_bmT {S : DSt} {R : DV → DSt → Prop} {g : DM} {do' : DTE} {da : DTA} (h : do' S fun x S1 => DL.isTup x ∧ da S1 fun ds S2 => g x ds S2 R) : dBMT g do' da S R := h
theorem r_index {S : DSt} {R : DV → DSt → Prop} {l : Bool} {x : DV} {es : List DV} {ns : List Int} {k : Int} (e : S.seq x = some (l, es)) (hi : allI es = some ns) (hk : k ∈ ns) (q : R (dI (ns.idxOf k : Nat)) S) : gIndexI l x [dI k] S R := by
  unfold gIndexI
  rw [e]
  dsimp only
  rw [hi]
  exact ⟨rfl, hk, q⟩
/-! ### data: cases, dicts of cases -/
def cD : Option Int → PyData
  | none => .none
  | some x => .int x
def lfC : Option Int → Leaf
  | none => .none
  | some x => .num x
theorem lfC_inj {c d : Option Int} (h : lfC c = lfC d) : c = d := by cases c <;> cases d <;> simp_all [lfC]
theorem key_cD (c : Option Int) : keyOf (.imm (cD c)) = some (lfC c) := by cases c <;> rfl
theorem kvD_lfC (c : Option Int) : kvD (lfC c) = cD c := by cases c <;> rfl
/-- a dict of cases -/
def mkD (cs : List (Option Int)) (v : Option Int → PyData) : PyData := .dict (cs.map fun c => (cD c, v c))
def mkL (cs : List (Option Int)) (v : Option Int → PyData) : List (Leaf × DV) := cs.map fun c => (lfC c, .imm (v c))
theorem allLeaf_mk (v : Option Int → PyData) : ∀ cs : List (Option Int), allLeaf (cs.map fun c => (cD c, v c)) = some (mkL cs v)
  | [] => rfl
  | c :: cs => by
    rw [List.map_cons]
    unfold allLeaf
    rw [allLeaf_mk v cs, show leafOf (cD c) = some (lfC c) from key_cD c]
    rfl
theorem dict_mk {S : DSt} {cs : List (Option Int)} {v : Option Int → PyData} : S.dict (.imm (mkD cs v)) = some (mkL cs v) := allLeaf_mk v cs
theorem put_mk {cs : List (Option Int)} {v : Option Int → PyData} {c : Option Int} (h : c ∉ cs) : putG (mkL cs v) (lfC c) (.imm (v c)) = mkL (cs ++ [c]) v := by
  unfold putG
  rw [if_neg]
  · unfold mkL; rw [List.map_append]; rfl
  · intro z
    obtain ⟨p, hp, e⟩ := List.any_eq_true.mp z
    obtain ⟨d, hd, rfl⟩ := List.mem_map.mp hp
    exact h (lfC_inj (of_decide_eq_true e) ▸ hd)
theorem val_mk {v : Option Int → PyData} {c : Option Int} : ∀ {cs : List (Option Int)}, c ∈ cs → valG (mkL cs v) (lfC c) = some (.imm (v c))
  | d :: cs, h => by
    unfold valG mkL
    rw [List.map_cons, List.find?_cons]
    by_cases e : d = c
    · subst e; simp
    · rw [decide_eq_false (fun z => e (lfC_inj z))]
      exact val_mk ((List.mem_cons.mp h).resolve_left fun z => e z.symm)
theorem fzd_mk {S : DSt} {k : Nat} {cs : List (Option Int)} {v : Option Int → PyData} (h : S.cell k = some (.dic (mkL cs v))) : FzD S [k] (.cell k) (mkD cs v) := by
  refine .dic (by simp) h ?_ ?_
  · unfold mkL
    rw [List.map_map, List.map_map]
    exact List.map_congr_left fun c _ => (kvD_lfC c).symm
  · unfold mkL
    rw [List.map_map, List.map_map]
    have := FzAll.imm (S := S) (fz := [k]) (cs.map v)
    rw [List.map_map] at this
    exact this
/-- the cases of a day -/
def CsL (ns : List Int) (cs : List (Option Int)) : Prop := cs.Nodup ∧ ∀ c, c ∈ cs ↔ Cs ns c
theorem CsL.of {ns ks : List Int} (h1 : ks.Pairwise (· < ·)) (h2 : ∀ x, x ∈ ks ↔ x ∈ ns) : CsL ns (none :: ks.map some) := by
  refine ⟨?_, fun c => ?_⟩
  · rw [List.nodup_cons]
    refine ⟨by simp, ?_⟩
    have : ks.Nodup := h1.imp fun h => Int.ne_of_lt h
    exact List.Pairwise.map _ (fun a b h z => h (Option.some.inj z)) this
  · cases c with
    | none => simp [Cs]
    | some x => simp [Cs, h2]
theorem cs_data (ks : List Int) : [PyData.none] ++ ks.map PyData.int = (none :: ks.map some).map cD := by
  rw [List.map_cons, List.map_map]
  rfl
theorem card_le {ks ns : List Int} (h : ks.Nodup) (hm : ∀ x ∈ ks, 0 ≤ x ∧ x ≤ 59) : ks.length < 64 := by
  have := nodup_le (ks := ks.map Int.toNat) (xs := List.range 60) ?_ ?_
  · rw [List.length_map, List.length_range] at this; omega
  · refine List.Pairwise.map _ (fun a b h => h) (List.Pairwise.imp_of_mem (fun {a b} ha hb hne => ?_) h)
    have h1 := hm a ha
    have h2 := hm b hb
    omega
  · intro k hk
    obtain ⟨a, ha, rfl⟩ := List.mem_map.mp hk
    have := hm a ha
    exact List.mem_range.mpr (by omega)
theorem r_neC {a b : Option Int} {S : DSt} {R : DV → DSt → Prop} (q : R (dB (!decide (a = b))) S) : gNeX (.imm (cD a)) (.imm (cD b)) S R := by
  have e : PyData.eqv (cD a) (cD b) = decide (a = b) := by cases a <;> cases b <;> simp [cD, PyData.eqv]; rfl
  have s : ∀ c, SeqAt.shaped (cD c) = true := fun c => by cases c <;> simp [cD, SeqAt.shaped, PyData.canLay0, PyData.depth]
  refine r_ne (fun z e => by cases a <;> cases e) (by rw [s, s]; rfl) ?_
  rw [e]
  exact q
theorem atI_last (init : List DV) (d : DV) : atI (init ++ [d]) (-1) = some d := by
  have e : ixN (init ++ [d]).length (-1) = some init.length := by
    rw [List.length_append, List.length_singleton]
    unfold ixN
    rw [if_neg (by omega), if_pos (by omega)]
    simp
    omega
  unfold atI
  rw [e]
  simp
theorem cut_from {A : Type} (xs : List A) (n : Nat) : DL.cutD xs (some (n : Int)) none = xs.drop n := by
  unfold DL.cutD
  rw [HT.sIx_none, HT.sIx_nat]
  by_cases c : n ≤ xs.length
  · rw [Nat.min_eq_left c, List.take_of_length_le (by rw [List.length_drop]; omega)]
  · rw [Nat.min_eq_right (by omega), List.drop_length, List.drop_of_length_le (by omega), List.take_nil]
theorem ys_get {xs : List Int} {i : Nat} {y : DY} (h : (((xs.map PyData.int).map DV.imm).map DY.one)[i]? = some y) : ∃ x, xs[i]? = some x ∧ y = .one (dI x) := by
  rw [List.map_map, List.map_map, List.getElem?_map] at h
  obtain ⟨x, hx, rfl⟩ := Option.map_eq_some_iff.mp h
  exact ⟨x, hx, rfl⟩
theorem r_gtwoT {i j : Nat} {p q : PyData} {S : DSt} {RS : DSt → Prop} (k : RS ((S.set i (.imm p)).set j (.imm q))) : dgTwo i j (.one (.imm (.tuple [p, q]))) S RS := k
theorem take_next {A : Type} {xs : List A} {i : Nat} {x : A} (h : xs[i]? = some x) : xs.take (i + 1) = xs.take i ++ [x] := by rw [List.take_add_one, h]; rfl
theorem isSome_mk {v : Option Int → PyData} {c : Option Int} {cs : List (Option Int)} : (valG (mkL cs v) (lfC c)).isSome = decide (c ∈ cs) := by
  by_cases h : c ∈ cs
  · rw [val_mk h, decide_eq_true h]; rfl
  · rw [decide_eq_false h]
    cases e : valG (mkL cs v) (lfC c) with
    | none => rfl
    | some d =>
      exfalso
      unfold valG mkL at e
      obtain ⟨p, hp, _⟩ := Option.map_eq_some_iff.mp e
      have h1 := List.mem_of_find?_eq_some hp
      have h2 := List.find?_some hp
      obtain ⟨q, hq, rfl⟩ := List.mem_map.mp h1
      have e2 := of_decide_eq_true h2
      exact h (lfC_inj e2 ▸ hq)
theorem bare_mk (cs : List (Option Int)) (v : Option Int → PyData) : (DO.dic (mkL cs v)).bare = true := by
  show (mkL cs v).all (fun p => p.2.bare) = true
  unfold mkL
  rw [List.all_map]
  exact List.all_eq_true.mpr fun _ _ => rfl
theorem merge_mk {v : Option Int → PyData} : ∀ {cs pre : List (Option Int)}, (pre ++ cs).Nodup → mergeG (mkL pre v) (mkL cs v) = mkL (pre ++ cs) v
  | [], pre, _ => by rw [List.append_nil]; rfl
  | c :: cs, pre, h => by
    show mergeG (putG (mkL pre v) (lfC c) (.imm (v c))) (mkL cs v) = _
    have hc : c ∉ pre := fun z => by
      rw [List.nodup_append] at h
      exact h.2.2 c z c List.mem_cons_self rfl
    rw [put_mk hc, merge_mk (by rw [List.append_assoc]; exact h), List.append_assoc]
    rfl
theorem merge_new {v : Option Int → PyData} {cs : List (Option Int)} (h : cs.Nodup) : mergeG [] (mkL cs v) = mkL cs v := merge_mk (pre := []) h
def okL (row : List Int) : Prop := row.length ≤ 60 ∧ In60 row ∧ row.Nodup
theorem nodup_len {ks ns : List Int} (h1 : ks.Nodup) (h2 : ns.Nodup) (h : ∀ k, k ∈ ks ↔ k ∈ ns) : ks.length = ns.length :=
  Nat.le_antisymm (nodup_le h1 fun k => (h k).mp) (nodup_le h2 fun k => (h k).mpr)
def sp_is_lane : DSp := fun ds μ R => ∃ row, ds = [.imm (T row)] ∧ μ = [] ∧ okL row ∧ ∀ μ', R (dB true) μ'
theorem go_is_lane : ∀ ds μ R, sp_is_lane ds μ R → t_is_lane P w K sp_is_car (ends R) ⟨ds.map some ++ List.replicate (2 - ds.length) none, μ⟩ := by
  rintro ds μ R ⟨row, rfl, rfl, ok, h⟩
  have hl := ok.1
  have hln : (List.map DV.imm (List.map PyData.int row)).length = row.length := by simp
  unfold t_is_lane
  walk_at "dy"
  refine r_iteF rfl ?_
  walk_at "dy"
  refine r_lc ?_
  walk_at "dy"
  refine lc_run (fun _ => True.intro) (by rw [List.length_map, hln, sizeLine_eq]; omega) (fun _ => true) (fun _ => .bool true) ?_ ?_
  · intro y hy N hN
    rw [ones] at hy
    obtain ⟨x, hx, rfl⟩ := List.mem_map.mp hy
    walk_at "dy"
    refine r_iteT rfl ?_
    walk_at "dy"
    refine r_callI rfl ⟨_, rfl, rfl, fun μ' => ?_⟩
    have e : isCarD (.int x) = true := by
      obtain ⟨a, b⟩ := ok.2.1 x hx
      simp [isCarD, a, b]
    rw [e]
    exact hN
  · walk_at "dy"
    refine r_bools (bs := row.map fun _ => true) rfl ?_ ?_
    · rw [ones, List.filter_eq_self.mpr fun _ _ => rfl, List.map_map, List.map_map, ← allB_map, List.map_map]
      rfl
    · walk_at "dy"
      rw [show ((row.map fun _ => true).all id) = true by simp]
      refine r_iteF rfl ?_
      walk_at "dy"
      refine r_setT rfl (ints_allI row) (by have : scanBound = 4096 := rfl; omega) fun ks k1 k2 => ?_
      walk_at "dy"
      refine r_lenS ?_
      walk_at "dy"
      rw [nodup_len k1 ok.2.2 k2]
      simpa using h []
def sp_require_lane : DSp := fun ds μ R => ∃ row, ds = [.imm (T row)] ∧ μ = [] ∧ okL row ∧ ∀ μ', R dN μ'
theorem go_require_lane : ∀ ds μ R, sp_require_lane ds μ R → t_require_lane P w K sp_is_lane (ends R) ⟨ds.map some ++ List.replicate (1 - ds.length) none, μ⟩ := by
  rintro ds μ R ⟨row, rfl, rfl, ok, h⟩
  unfold t_require_lane
  walk_at "dy"
  refine r_callI rfl ⟨_, rfl, rfl, ok, fun μ' => ?_⟩
  walk_at "dy"
  refine r_iteF rfl ?_
  walk_at "dy"
  exact h _
end
end K33

set_option Elab.async false
set_option linter.all false
set_option maxRecDepth 100000
set_option autoImplicit false
set_option maxHeartbeats 8000000
namespace K33
open PySem PySem.Spec L2 DL PyProof.Rows
local macro_rules | `(tactic| walk_at "dl1") => `(tactic| ((first | (with_reducible apply r_seq) | (with_reducible apply r_asg) | ((with_reducible apply r_gn); try simp only [DSt.set, List.set_cons_succ, List.set_cons_zero, List.set_nil]) | ((with_reducible apply r_gtwo); try simp only [DSt.set, List.set_cons_succ, List.set_cons_zero, List.set_nil]) | ((with_reducible apply r_var); · exact rfl) | (with_reducible apply r_c) | (with_reducible apply r_op) | (with_reducible apply r_un) | (with_reducible apply r_test) | (with_reducible apply r_kTest) | (with_reducible apply r_and) | (with_reducible apply r_or) | (with_reducible apply r_not) | (with_reducible apply r_if) | (with_reducible apply r_andV) | (with_reducible apply r_orV) | (with_reducible apply r_notV) | (with_reducible apply r_chain) | (with_reducible apply r_nil) | (with_reducible apply r_cons) | (with_reducible apply r_tup) | ((with_reducible apply r_kTup); (· exact rfl); (· exact Nat.le_of_ble_eq_true rfl)) | ((with_reducible apply r_kLstC); (· exact Nat.le_of_ble_eq_true rfl)) | ((with_reducible apply r_kLst); (· exact rfl); (· exact Nat.le_of_ble_eq_true rfl)) | (with_reducible apply r_cb) | (with_reducible apply r_cmp) | (with_reducible apply r_add) | (with_reducible apply r_sub) | (with_reducible apply r_neg) | (with_reducible apply r_min) | ((with_reducible apply r_isN); · exact rfl) | ((with_reducible apply r_notN); · exact rfl) | ((with_reducible apply r_isi); · decide) | ((with_reducible apply r_len); (· exact rfl); (· exact rfl)) | (with_reducible apply r_call) | (with_reducible apply r_retI) | (with_reducible apply r_for) | (with_reducible apply r_dc) | (with_reducible apply r_iAny) | ((with_reducible apply r_kAny); · exact rfl) | (with_reducible apply r_iR1) | (with_reducible apply r_iR2) | (with_reducible apply r_iEn) | ((with_reducible apply r_kEn); · exact rfl) | (with_reducible apply r_drop) | (with_reducible apply r_retK) | (with_reducible apply r_kRet) | (with_reducible apply r_ifS) | (with_reducible apply r_next) | (with_reducible apply r_yes) | (with_reducible apply r_brk) | (with_reducible apply r_cont)) <;> try dsimp only))
local macro_rules | `(tactic| walk_at "dl") => `(tactic| (repeat walk_at "dl1"))
local macro_rules | `(tactic| walk_at "dlm") => `(tactic| ((first | walk_at "dl1" | ((first | (with_reducible apply r_bm) | (with_reducible apply r_bm0) | (with_reducible apply r_eqI) | (with_reducible apply r_neI) | (with_reducible apply r_eqS) | (with_reducible apply r_neS)) <;> try dsimp only))))
local macro_rules | `(tactic| walk_at "dx") => `(tactic| (repeat walk_at "dlm"))
local macro_rules | `(tactic| walk_at "dy1") => `(tactic| ((first | walk_at "dlm" | ((first | (with_reducible apply r_dput) | (with_reducible apply r_sl) | (with_reducible apply r_noPart) | (with_reducible apply r_part) | (with_reducible apply r_kPart) | (with_reducible apply r_rg1) | (with_reducible apply r_kRg1) | (with_reducible apply r_rg2) | (with_reducible apply r_kRg2) | (with_reducible apply r_rev) | (with_reducible apply r_lstRg) | (with_reducible apply r_tupRg) | (with_reducible apply r_newD) | (with_reducible apply r_par) | ((with_reducible apply r_kPar); try simp only [DSt.set, List.set_cons_succ, List.set_cons_zero, List.set_nil]) | (with_reducible apply r_parN) | ((with_reducible apply r_kParN); (· exact Nat.le_of_ble_eq_true rfl); (· exact rfl); (try simp only [DSt.set, DSt.new, List.set_cons_succ, List.set_cons_zero, List.set_nil, List.cons_append, List.nil_append, List.length_cons, List.length_nil, Nat.reduceAdd]))) <;> try dsimp only))))
local macro_rules | `(tactic| walk_at "dy") => `(tactic| (repeat walk_at "dy1"))
section
variable {P : Program} {w : World} {K : PySem.W.Frag}
/-! ### routes, plain -/
def pre : List Int → List Int → Nat
  | x :: xs, y :: ys => if x = y then pre xs ys + 1 else 0
  | _, _ => 0
theorem pre_nil (a : List Int) : pre a [] = 0 := by cases a <;> rfl
theorem pre_le : ∀ a b : List Int, pre a b ≤ a.length ∧ pre a b ≤ b.length
  | [], b => by simp [pre]
  | _ :: _, [] => by simp [pre]
  | x :: xs, y :: ys => by
    have := pre_le xs ys
    unfold pre
    split <;> simp only [List.length_cons] <;> omega
theorem pre_here : ∀ {a b : List Int} {i : Nat} {x y : Int}, i ≤ pre a b → a[i]? = some x → b[i]? = some y → (x ≠ y → pre a b = i) ∧ (x = y → i + 1 ≤ pre a b)
  | [], _, _, _, _, _, h, _ => by simp at h
  | _ :: _, [], _, _, _, _, _, h => by simp at h
  | u :: a, v :: b, 0, x, y, _, h1, h2 => by
    cases (show u = x from by simpa using h1)
    cases (show v = y from by simpa using h2)
    unfold pre
    exact ⟨fun e => if_neg e, fun e => by rw [if_pos e]; omega⟩
  | u :: a, v :: b, i + 1, x, y, hi, h1, h2 => by
    unfold pre at hi ⊢
    split at hi
    · rename_i e
      have := pre_here (a := a) (b := b) (i := i) (by omega) (by simpa using h1) (by simpa using h2)
      rw [if_pos e]
      exact ⟨fun z => by rw [this.1 z], fun z => by have := this.2 z; omega⟩
    · omega
theorem pre_take : ∀ (a b : List Int) (p : Nat), pre a (b.take p) = min (pre a b) p
  | [], b, p => by simp [pre]
  | x :: xs, [], p => by simp [pre]
  | x :: xs, y :: ys, 0 => by simp [pre]
  | x :: xs, y :: ys, p + 1 => by
    rw [List.take_succ_cons]
    unfold pre
    split
    · rw [pre_take xs ys p]; omega
    · simp
theorem pre_app : ∀ (a b l : List Int), pre a b ≤ pre a (b ++ l)
  | [], b, l => by simp [pre]
  | x :: xs, [], l => by simp [pre]
  | x :: xs, y :: ys, l => by
    rw [List.cons_append]
    unfold pre
    split
    · have := pre_app xs ys l; omega
    · exact Nat.le_refl _
theorem pre_self : ∀ (a l : List Int), pre a (a ++ l) = a.length
  | [], l => by simp [pre]
  | x :: xs, l => by
    rw [List.cons_append]
    unfold pre
    rw [if_pos rfl, pre_self xs l]
    rfl
theorem pre_same : ∀ a b : List Int, a.take (pre a b) = b.take (pre a b)
  | [], b => by simp [pre]
  | _ :: _, [] => by simp [pre]
  | x :: xs, y :: ys => by
    unfold pre
    split
    · rename_i e; rw [List.take_succ_cons, List.take_succ_cons, pre_same xs ys, e]
    · rfl
def way (a b : List Int) : List Int := (a.drop (pre a b)).take 1 ++ b.drop (pre a b)
theorem way_len (a b : List Int) : (way a b).length = (if pre a b < a.length then 1 else 0) + (b.length - pre a b) := by
  unfold way
  rw [List.length_append, List.length_take, List.length_drop, List.length_drop]
  split <;> omega
theorem play_push : ∀ (q p : List Int), (p ++ q).Nodup → play p q = p ++ q
  | [], p, _ => by simp [play]
  | x :: q, p, h => by
    have hx : x ∉ p := fun z => by
      rw [List.nodup_append] at h
      exact h.2.2 x z x List.mem_cons_self rfl
    rw [play_cons, show movedL p x = p ++ [x] from if_neg hx, play_push q (p ++ [x]) (by rw [List.append_assoc]; exact h), List.append_assoc]
    rfl
theorem idx_at {a : List Int} (h : a.Nodup) {i : Nat} {x : Int} (e : a[i]? = some x) : a.idxOf x = i := by
  have hm := List.mem_of_getElem? e
  obtain ⟨hi, e⟩ := List.getElem?_eq_some_iff.mp e
  have hl := List.idxOf_lt_length_iff.mpr hm
  exact (List.getElem_inj h).mp ((List.getElem_idxOf hl).trans e.symm)
theorem moved_at {a : List Int} (h : a.Nodup) {i : Nat} {x : Int} (e : a[i]? = some x) : movedL a x = a.take i := by
  unfold movedL
  rw [if_pos (List.mem_of_getElem? e), idx_at h e]
theorem way_lt {a b : List Int} (h : pre a b < a.length) : way a b = a[pre a b] :: b.drop (pre a b) := by
  unfold way
  rw [List.drop_eq_getElem_cons h]
  rfl
theorem way_ge {a b : List Int} (h : ¬ pre a b < a.length) : way a b = b.drop (pre a b) := by
  unfold way
  rw [List.drop_eq_nil_of_le (by omega)]
  rfl
theorem way_cut {b : List Int} {k : Nat} (h : k ≤ b.length) : way (b.take k) b = b.drop k := by
  have e : pre (b.take k) b = k := by
    have := pre_self (b.take k) (b.drop k)
    rw [List.take_append_drop, List.length_take] at this
    omega
  have := way_ge (a := b.take k) (b := b) (by rw [e, List.length_take]; omega)
  rw [this, e]
theorem play_drop {b : List Int} (hb : b.Nodup) (k : Nat) : play (b.take k) (b.drop k) = b := by
  rw [play_push _ _ (by rw [List.take_append_drop]; exact hb), List.take_append_drop]
theorem play_way {a b : List Int} (ha : a.Nodup) (hb : b.Nodup) : play a (way a b) = b := by
  by_cases c : pre a b < a.length
  · rw [way_lt c, play_cons, moved_at ha (List.getElem?_eq_getElem c), pre_same, play_drop hb]
  · have e : a = a.take (pre a b) := (List.take_of_length_le (by omega)).symm
    rw [way_ge c]
    have := play_drop hb (pre a b)
    rw [← pre_same, ← e] at this
    exact this
/-- behind the first call -/
theorem way_next {a b : List Int} (ha : a.Nodup) (hb : b.Nodup) (h : way a b ≠ []) : (way (play a ((way a b).take 1)) b).length = (way a b).length - 1 := by
  by_cases c : pre a b < a.length
  · rw [way_lt c]
    show (way (movedL a a[pre a b]) b).length = _
    rw [moved_at ha (List.getElem?_eq_getElem c), pre_same, way_cut (pre_le a b).2]
    simp
  · rw [way_ge c] at h ⊢
    have hl : pre a b < b.length := by
      rcases Nat.lt_or_ge (pre a b) b.length with z | z
      · exact z
      · exact absurd (List.drop_eq_nil_of_le z) h
    have e : a = b.take (pre a b) := by rw [← pre_same]; exact (List.take_of_length_le (by omega)).symm
    have hx : b[pre a b] ∉ a := fun z => by
      have : b[pre a b] ∈ b.take (pre a b) := by rw [← e]; exact z
      obtain ⟨j, hj, ej⟩ := List.mem_take_iff_getElem.mp this
      have := (List.getElem_inj hb).mp ej
      omega
    rw [List.drop_eq_getElem_cons hl]
    show (way (movedL a b[pre a b]) b).length = _
    rw [show movedL a b[pre a b] = a ++ [b[pre a b]] from if_neg hx]
    have e2 : a ++ [b[pre a b]] = b.take (pre a b + 1) := by
      rw [List.take_add_one, List.getElem?_eq_getElem hl, ← e]; rfl
    rw [e2, way_cut (by omega)]
    simp
    omega
theorem way_step (a b : List Int) (x : Int) : (way a (movedL b x)).length ≤ (way a b).length + 1 := by
  rw [way_len, way_len]
  have h1 := pre_le a b
  unfold movedL
  split
  · rw [pre_take, List.length_take]
    rcases Nat.le_total (pre a b) (b.idxOf x) with z | z
    · rw [Nat.min_eq_left z]; split <;> omega
    · rw [Nat.min_eq_right z]; split <;> split <;> omega
  · have h2 := pre_app a b [x]
    have h3 := pre_le a (b ++ [x])
    rw [List.length_append] at h3 ⊢
    simp only [List.length_singleton] at h3 ⊢
    split <;> split <;> omega
theorem way_self (a : List Int) : way a a = [] := by
  have := pre_self a []
  rw [List.append_nil] at this
  unfold way
  rw [this, List.drop_length]
  rfl
/-- no calls lead there with fewer -/
theorem way_least (a : List Int) (cs : List Int) : (way a (play a cs)).length ≤ cs.length := by
  have : ∀ (cs b : List Int), (way a (play b cs)).length ≤ (way a b).length + cs.length := by
    intro cs
    induction cs with
    | nil => intro b; exact Nat.le_refl _
    | cons x cs ih =>
      intro b
      have h1 := ih (movedL b x)
      have h2 := way_step a b x
      rw [play_cons, List.length_cons]
      omega
  have h := this cs a
  rw [way_self] at h
  simpa using h
theorem way_tri {a b c : List Int} (ha : a.Nodup) (hb : b.Nodup) (hc : c.Nodup) : (way a c).length ≤ (way a b).length + (way b c).length := by
  have := way_least a (way a b ++ way b c)
  rw [play_append, play_way ha hb, play_way hb hc, List.length_append] at this
  exact this
theorem way_one {a : List Int} (ha : a.Nodup) (x : Int) : way a (movedL a x) = [x] := by
  unfold movedL
  split
  · rename_i h
    have hl := List.idxOf_lt_length_iff.mpr h
    have e := pre_self a []
    rw [List.append_nil] at e
    have e2 : pre a (a.take (a.idxOf x)) = a.idxOf x := by rw [pre_take, e]; omega
    have e3 : (a.take (a.idxOf x)).drop (a.idxOf x) = [] := List.drop_eq_nil_of_le (by rw [List.length_take]; omega)
    unfold way
    rw [e2, e3, List.drop_eq_getElem_cons hl, List.getElem_idxOf hl]
    rfl
  · unfold way
    rw [pre_self]
    simp
theorem way_front (a b : List Int) (h : Nat) : (way a (b.take h)).length ≤ (way a b).length + 1 ∧ (a.take (b.take h).length = b.take h ∨ (way a b).take (way a (b.take h)).length = way a (b.take h)) := by
  have h1 := pre_le a b
  rcases Nat.le_total (pre a b) h with z | z
  · have e : pre a (b.take h) = pre a b := by rw [pre_take]; omega
    have e2 : way a b = way a (b.take h) ++ b.drop h := by
      unfold way
      rw [e, List.append_assoc]
      congr 1
      generalize pre a b = k at *
      have e4 := congrArg (List.drop k) (List.take_append_drop h b).symm
      rw [List.drop_append_of_le_length (by rw [List.length_take]; omega)] at e4
      exact e4
    refine ⟨by rw [e2, List.length_append]; omega, .inr ?_⟩
    rw [e2]
    exact List.take_left' rfl
  · have e : pre a (b.take h) = h := by rw [pre_take]; omega
    refine ⟨?_, .inl ?_⟩
    · rw [way_len, e, List.length_take]; split <;> omega
    · have e3 := congrArg (List.take h) (pre_same a b)
      rw [List.take_take, List.take_take, Nat.min_eq_left z] at e3
      rw [List.length_take, Nat.min_eq_left (by omega)]
      exact e3

end
end K33

set_option Elab.async false
set_option linter.all false
set_option maxRecDepth 100000
set_option autoImplicit false
set_option maxHeartbeats 8000000
namespace K33
open PySem PySem.Spec L2 DL PyProof.Rows
local macro_rules | `(tactic| walk_at "dl1") => `(tactic| ((first | (with_reducible apply r_seq) | (with_reducible apply r_asg) | ((with_reducible apply r_gn); try simp only [DSt.set, List.set_cons_succ, List.set_cons_zero, List.set_nil]) | ((with_reducible apply r_gtwo); try simp only [DSt.set, List.set_cons_succ, List.set_cons_zero, List.set_nil]) | ((with_reducible apply r_var); · exact rfl) | (with_reducible apply r_c) | (with_reducible apply r_op) | (with_reducible apply r_un) | (with_reducible apply r_test) | (with_reducible apply r_kTest) | (with_reducible apply r_and) | (with_reducible apply r_or) | (with_reducible apply r_not) | (with_reducible apply r_if) | (with_reducible apply r_andV) | (with_reducible apply r_orV) | (with_reducible apply r_notV) | (with_reducible apply r_chain) | (with_reducible apply r_nil) | (with_reducible apply r_cons) | (with_reducible apply r_tup) | ((with_reducible apply r_kTup); (· exact rfl); (· exact Nat.le_of_ble_eq_true rfl)) | ((with_reducible apply r_kLstC); (· exact Nat.le_of_ble_eq_true rfl)) | ((with_reducible apply r_kLst); (· exact rfl); (· exact Nat.le_of_ble_eq_true rfl)) | (with_reducible apply r_cb) | (with_reducible apply r_cmp) | (with_reducible apply r_add) | (with_reducible apply r_sub) | (with_reducible apply r_neg) | (with_reducible apply r_min) | ((with_reducible apply r_isN); · exact rfl) | ((with_reducible apply r_notN); · exact rfl) | ((with_reducible apply r_isi); · decide) | ((with_reducible apply r_len); (· exact rfl); (· exact rfl)) | (with_reducible apply r_call) | (with_reducible apply r_retI) | (with_reducible apply r_for) | (with_reducible apply r_dc) | (with_reducible apply r_iAny) | ((with_reducible apply r_kAny); · exact rfl) | (with_reducible apply r_iR1) | (with_reducible apply r_iR2) | (with_reducible apply r_iEn) | ((with_reducible apply r_kEn); · exact rfl) | (with_reducible apply r_drop) | (with_reducible apply r_retK) | (with_reducible apply r_kRet) | (with_reducible apply r_ifS) | (with_reducible apply r_next) | (with_reducible apply r_yes) | (with_reducible apply r_brk) | (with_reducible apply r_cont)) <;> try dsimp only))
local macro_rules | `(tactic| walk_at "dl") => `(tactic| (repeat walk_at "dl1"))
local macro_rules | `(tactic| walk_at "dlm") => `(tactic| ((first | walk_at "dl1" | ((first | (with_reducible apply r_bm) | (with_reducible apply r_bm0) | (with_reducible apply r_eqI) | (with_reducible apply r_neI) | (with_reducible apply r_eqS) | (with_reducible apply r_neS)) <;> try dsimp only))))
local macro_rules | `(tactic| walk_at "dx") => `(tactic| (repeat walk_at "dlm"))
local macro_rules | `(tactic| walk_at "dy1") => `(tactic| ((first | walk_at "dlm" | ((first | (with_reducible apply r_dput) | (with_reducible apply r_sl) | (with_reducible apply r_noPart) | (with_reducible apply r_part) | (with_reducible apply r_kPart) | (with_reducible apply r_rg1) | (with_reducible apply r_kRg1) | (with_reducible apply r_rg2) | (with_reducible apply r_kRg2) | (with_reducible apply r_rev) | (with_reducible apply r_lstRg) | (with_reducible apply r_tupRg) | (with_reducible apply r_newD) | (with_reducible apply r_par) | ((with_reducible apply r_kPar); try simp only [DSt.set, List.set_cons_succ, List.set_cons_zero, List.set_nil]) | (with_reducible apply r_parN) | ((with_reducible apply r_kParN); (· exact Nat.le_of_ble_eq_true rfl); (· exact rfl); (try simp only [DSt.set, DSt.new, List.set_cons_succ, List.set_cons_zero, List.set_nil, List.cons_append, List.nil_append, List.length_cons, List.length_nil, Nat.reduceAdd]))) <;> try dsimp only))))
local macro_rules | `(tactic| walk_at "dy") => `(tactic| (repeat walk_at "dy1"))
section
variable {P : Program} {w : World} {K : PySem.W.Frag}
/-! ### route_in, route -/
theorem cut_two {A : Type} (xs : List A) (m n : Nat) : DL.cutD xs (some (m : Int)) (some (n : Int)) = (xs.drop m).take (n - m) := by
  unfold DL.cutD
  rw [HT.sIx_nat, HT.sIx_nat]
  by_cases c : m ≤ xs.length
  · rw [Nat.min_eq_left c]
    by_cases c2 : n ≤ xs.length
    · rw [Nat.min_eq_left c2]
    · rw [Nat.min_eq_right (by omega), List.take_of_length_le (by rw [List.length_drop]; omega), List.take_of_length_le (by rw [List.length_drop]; omega)]
  · have e1 : xs.drop (min m xs.length) = [] := List.drop_of_length_le (by omega)
    have e2 : xs.drop m = [] := List.drop_of_length_le (by omega)
    rw [e1, e2, List.take_nil, List.take_nil]
def sp_route_in : DSp := fun ds μ R => ∃ a b, ds = [.imm (T a), .imm (T b)] ∧ μ = [] ∧ a.length ≤ 100 ∧ b.length ≤ 100 ∧ ∀ μ', R (.imm (T (way a b))) μ'
theorem go_route_in : ∀ ds μ R, sp_route_in ds μ R → t_route_in P w K (ends R) ⟨ds.map some ++ List.replicate (5 - ds.length) none, μ⟩ := by
  rintro ds μ R ⟨a, b, rfl, rfl, la, lb, h⟩
  unfold t_route_in
  simp only [List.map_cons, List.map_nil, List.length_cons, List.length_nil, Nat.reduceAdd, Nat.reduceSub, List.replicate, List.cons_append, List.nil_append]
  have hp := pre_le a b
  walk_at "dy"
  have fin : ∀ z3 z4 : Option DV, (dRetW P w K (dOp (gOr gAdd gAddC) (dSl (dVar 0) (dPart (dVar 2)) (dPart (dOp (gOr gAdd gAddC) (dVar 2) (dC (dI 1))))) (dSl (dVar 1) (dPart (dVar 2)) dNoPart))) (ends R) ⟨[some (.imm (T a)), some (.imm (T b)), some (dI (pre a b : Nat)), z3, z4], []⟩ := by
    intro z3 z4
    walk_at "dy"
    refine r_kSl rfl (allImm_map _) ?_
    walk_at "dy"
    refine r_kSl rfl (allImm_map _) ?_
    walk_at "dy"
    have c1 := cut_two (a.map PyData.int) (pre a b) (pre a b + 1)
    have c2 := cut_from (b.map PyData.int) (pre a b)
    rw [show ((pre a b : Nat) : Int) + 1 = ((pre a b + 1 : Nat) : Int) by omega, c1, c2, show pre a b + 1 - pre a b = 1 by omega]
    refine r_addT (by simp [sizeLine_eq]; omega) ?_
    walk_at "dy"
    have := h []
    unfold way T at this
    rw [List.map_append, List.map_take, List.map_drop, List.map_drop] at this
    exact this
  unfold diZip
  walk_at "dy"
  refine ⟨_, _, _, _, rfl, rfl, rfl, ?_⟩
  have hz : ∀ {i : Nat} {y : DY}, (zipD (List.map DV.imm (List.map PyData.int a)) (List.map DV.imm (List.map PyData.int b)))[i]? = some y → ∃ u v, a[i]? = some u ∧ b[i]? = some v ∧ y = .two (dI u) (dI v) := by
    intro i y hy
    obtain ⟨d, e, h1, h2, rfl⟩ := get_zipD hy
    rw [List.map_map, List.getElem?_map] at h1 h2
    obtain ⟨u, hu, rfl⟩ := Option.map_eq_some_iff.mp h1
    obtain ⟨v, hv, rfl⟩ := Option.map_eq_some_iff.mp h2
    exact ⟨u, v, hu, hv, rfl⟩
  refine ⟨fun i S => (∃ z3 z4, S = ⟨[some (.imm (T a)), some (.imm (T b)), some (dI (i : Nat)), z3, z4], []⟩) ∧ i ≤ pre a b, ⟨⟨none, none, rfl⟩, Nat.zero_le _⟩, fun _ _ _ _ => True.intro, ?_, ?_⟩
  · rintro i y S2 hy ⟨⟨z3, z4, rfl⟩, hi⟩
    obtain ⟨u, v, hu, hv, rfl⟩ := hz hy
    have hh := pre_here hi hu hv
    walk_at "dy"
    refine r_ite (fun e => ?_) (fun e => ?_)
    · have e : u ≠ v := by simpa using e
      have := fin (some (dI u)) (some (dI v))
      rw [hh.1 e] at this
      exact this
    · have e : u = v := by simpa using e
      walk_at "dy"
      refine r_aug rfl ?_
      walk_at "dy"
      exact ⟨trivial, ⟨_, _, rfl⟩, hh.2 e⟩
  · rintro S2 ⟨⟨z3, z4, rfl⟩, hi⟩
    rw [zipD_len, List.length_map, List.length_map, List.length_map, List.length_map] at hi
    have e : min a.length b.length = pre a b := by omega
    have := fin z3 z4
    rw [← e] at this
    rw [zipD_len, List.length_map, List.length_map, List.length_map, List.length_map]
    exact this
def sp_route : DSp := fun ds μ R => ∃ a b, ds = [.imm (T a), .imm (T b)] ∧ μ = [] ∧ okL a ∧ okL b ∧ ∀ μ', R (.imm (T (way a b))) μ'
theorem go_route : ∀ ds μ R, sp_route ds μ R → t_route P w K sp_route_in sp_require_lane (ends R) ⟨ds.map some ++ List.replicate (2 - ds.length) none, μ⟩ := by
  rintro ds μ R ⟨a, b, rfl, rfl, oa, ob, h⟩
  unfold t_route
  walk_at "dy"
  refine r_callI rfl ⟨_, rfl, rfl, oa, fun μ' => ?_⟩
  walk_at "dy"
  refine r_callI rfl ⟨_, rfl, rfl, ob, fun μ' => ?_⟩
  walk_at "dy"
  refine r_callI rfl ⟨_, _, rfl, rfl, by have := oa.1; omega, by have := ob.1; omega, fun μ' => ?_⟩
  walk_at "dy"
  exact h _
/-! ### _law_played -/
theorem cut_to {A : Type} (xs : List A) (n : Nat) : DL.cutD xs none (some (n : Int)) = xs.take n := by
  unfold DL.cutD
  rw [HT.sIx_none, HT.sIx_nat, List.drop_zero, Nat.sub_zero]
  by_cases c : n ≤ xs.length
  · rw [Nat.min_eq_left c]
  · rw [Nat.min_eq_right (by omega), List.take_length, List.take_of_length_le (by omega)]
theorem r_kMI {S : DSt} {R : DV → DSt → Prop} {g : DM} {da : DTA} {x : DV} {es : List DV} (e : S.seq x = some (true, es)) (h : da S fun ds S2 => g x ds S2 R) : kM "list" g da R x S := ⟨.inl ⟨rfl, es, e⟩, h⟩
def sp__law_played : DSp := fun ds μ R => ∃ row cs, ds = [.imm (T row), .imm (T cs)] ∧ μ = [] ∧ row.length ≤ 100 ∧ cs.length ≤ 3000 ∧ ∀ μ', R (.imm (T (play row cs))) μ'
theorem go__law_played : ∀ ds μ R, sp__law_played ds μ R → t__law_played P w K (ends R) ⟨ds.map some ++ List.replicate (4 - ds.length) none, μ⟩ := by
  rintro ds μ R ⟨row, cs, rfl, rfl, hr, hc, h⟩
  unfold t__law_played
  simp only [List.map_cons, List.map_nil, List.length_cons, List.length_nil, Nat.reduceAdd, Nat.reduceSub, List.replicate, List.cons_append, List.nil_append]
  walk_at "dy"
  refine r_listOf rfl (allImm_map _) ?_
  walk_at "dy"
  refine ⟨fun i S => ∃ z3, S = ⟨[some (.imm (T row)), some (.imm (T cs)), some (.imm (L (play row (cs.take i)))), z3], []⟩, ⟨_, rfl⟩, fun _ _ _ _ => True.intro, ?_, ?_⟩
  · rintro i y S2 hy ⟨z3, rfl⟩
    obtain ⟨x, hx, rfl⟩ := ys_get hy
    have hl := play_len (cs.take i) row
    rw [List.length_take] at hl
    have hp : play row (cs.take (i + 1)) = movedL (play row (cs.take i)) x := by rw [take_next hx, play_append]; rfl
    dsimp only
    rw [hp]
    generalize play row (cs.take i) = cur at hl ⊢
    walk_at "dy"
    refine r_inI rfl rfl (ints_allI cur) ?_
    walk_at "dy"
    refine r_ite (fun e => ?_) (fun e => ?_)
    · have e : x ∈ cur := by simpa using e
      walk_at "dy"
      refine .inl ?_
      walk_at "dy"
      refine r_kMI rfl ?_
      walk_at "dy"
      refine r_index rfl (ints_allI cur) e ?_
      walk_at "dy"
      refine r_kSl rfl (allImm_map _) ?_
      walk_at "dy"
      rw [cut_to, ← List.map_take]
      refine ⟨some (dI x), ?_⟩
      rw [show movedL cur x = cur.take (cur.idxOf x) from if_pos e]
      rfl
    · have e : ¬ x ∈ cur := by simpa using e
      walk_at "dy"
      refine r_lst ?_
      walk_at "dy"
      refine r_addLI (by simp [sizeLine_eq]; omega) ?_
      walk_at "dy"
      refine ⟨some (dI x), ?_⟩
      rw [show movedL cur x = cur ++ [x] from if_neg e]
      unfold L
      rw [List.map_append]
      rfl
  · rintro S2 ⟨z3, rfl⟩
    rw [List.length_map, List.length_map, List.length_map, List.take_length]
    walk_at "dy"
    refine r_tupOf rfl (allImm_map _) ?_
    walk_at "dy"
    exact h _

end
end K33

set_option Elab.async false
set_option linter.all false
set_option maxRecDepth 100000
set_option autoImplicit false
set_option maxHeartbeats 8000000
namespace K33
open PySem PySem.Spec L2 DL PyProof.Rows
local macro_rules | `(tactic| walk_at "dl1") => `(tactic| ((first | (with_reducible apply r_seq) | (with_reducible apply r_asg) | ((with_reducible apply r_gn); try simp only [DSt.set, List.set_cons_succ, List.set_cons_zero, List.set_nil]) | ((with_reducible apply r_gtwo); try simp only [DSt.set, List.set_cons_succ, List.set_cons_zero, List.set_nil]) | ((with_reducible apply r_var); · exact rfl) | (with_reducible apply r_c) | (with_reducible apply r_op) | (with_reducible apply r_un) | (with_reducible apply r_test) | (with_reducible apply r_kTest) | (with_reducible apply r_and) | (with_reducible apply r_or) | (with_reducible apply r_not) | (with_reducible apply r_if) | (with_reducible apply r_andV) | (with_reducible apply r_orV) | (with_reducible apply r_notV) | (with_reducible apply r_chain) | (with_reducible apply r_nil) | (with_reducible apply r_cons) | (with_reducible apply r_tup) | ((with_reducible apply r_kTup); (· exact rfl); (· exact Nat.le_of_ble_eq_true rfl)) | ((with_reducible apply r_kLstC); (· exact Nat.le_of_ble_eq_true rfl)) | ((with_reducible apply r_kLst); (· exact rfl); (· exact Nat.le_of_ble_eq_true rfl)) | (with_reducible apply r_cb) | (with_reducible apply r_cmp) | (with_reducible apply r_add) | (with_reducible apply r_sub) | (with_reducible apply r_neg) | (with_reducible apply r_min) | ((with_reducible apply r_isN); · exact rfl) | ((with_reducible apply r_notN); · exact rfl) | ((with_reducible apply r_isi); · decide) | ((with_reducible apply r_len); (· exact rfl); (· exact rfl)) | (with_reducible apply r_call) | (with_reducible apply r_retI) | (with_reducible apply r_for) | (with_reducible apply r_dc) | (with_reducible apply r_iAny) | ((with_reducible apply r_kAny); · exact rfl) | (with_reducible apply r_iR1) | (with_reducible apply r_iR2) | (with_reducible apply r_iEn) | ((with_reducible apply r_kEn); · exact rfl) | (with_reducible apply r_drop) | (with_reducible apply r_retK) | (with_reducible apply r_kRet) | (with_reducible apply r_ifS) | (with_reducible apply r_next) | (with_reducible apply r_yes) | (with_reducible apply r_brk) | (with_reducible apply r_cont)) <;> try dsimp only))
local macro_rules | `(tactic| walk_at "dl") => `(tactic| (repeat walk_at "dl1"))
local macro_rules | `(tactic| walk_at "dlm") => `(tactic| ((first | walk_at "dl1" | ((first | (with_reducible apply r_bm) | (with_reducible apply r_bm0) | (with_reducible apply r_eqI) | (with_reducible apply r_neI) | (with_reducible apply r_eqS) | (with_reducible apply r_neS)) <;> try dsimp only))))
local macro_rules | `(tactic| walk_at "dx") => `(tactic| (repeat walk_at "dlm"))
local macro_rules | `(tactic| walk_at "dy1") => `(tactic| ((first | walk_at "dlm" | ((first | (with_reducible apply r_dput) | (with_reducible apply r_sl) | (with_reducible apply r_noPart) | (with_reducible apply r_part) | (with_reducible apply r_kPart) | (with_reducible apply r_rg1) | (with_reducible apply r_kRg1) | (with_reducible apply r_rg2) | (with_reducible apply r_kRg2) | (with_reducible apply r_rev) | (with_reducible apply r_lstRg) | (with_reducible apply r_tupRg) | (with_reducible apply r_newD) | (with_reducible apply r_par) | ((with_reducible apply r_kPar); try simp only [DSt.set, List.set_cons_succ, List.set_cons_zero, List.set_nil]) | (with_reducible apply r_parN) | ((with_reducible apply r_kParN); (· exact Nat.le_of_ble_eq_true rfl); (· exact rfl); (try simp only [DSt.set, DSt.new, List.set_cons_succ, List.set_cons_zero, List.set_nil, List.cons_append, List.nil_append, List.length_cons, List.length_nil, Nat.reduceAdd]))) <;> try dsimp only))))
local macro_rules | `(tactic| walk_at "dy") => `(tactic| (repeat walk_at "dy1"))
section
variable {P : Program} {w : World} {K : PySem.W.Frag}
theorem eqv_ints : ∀ a b : List Int, PyData.eqvAll (a.map PyData.int) (b.map PyData.int) = decide (a = b)
  | [], [] => by simp [PyData.eqvAll]
  | [], _ :: _ => by simp [PyData.eqvAll]
  | _ :: _, [] => by simp [PyData.eqvAll]
  | x :: a, y :: b => by
    simp [PyData.eqvAll, PyData.eqv, eqv_ints a b]
    rfl
theorem shapedT (ns : List Int) : SeqAt.shaped (T ns) = true := by
  have := shaped_ints ns
  simpa [SeqAt.shaped, PyData.canLay0, PyData.depth, T] using this
theorem r_neT {a b : List Int} {S : DSt} {R : DV → DSt → Prop} (q : R (dB (!decide (a = b))) S) : gNeX (.imm (T a)) (.imm (T b)) S R := by
  refine r_ne (fun _ z => nomatch z) (by rw [shapedT, shapedT]; rfl) ?_
  rw [show PyData.eqv (T a) (T b) = decide (a = b) by simp only [T, PyData.eqv, eqv_ints]]
  exact q
theorem r_eqT {a b : List Int} {S : DSt} {R : DV → DSt → Prop} (q : R (dB (decide (a = b))) S) : gEqX (.imm (T a)) (.imm (T b)) S R := by
  refine r_eq (fun _ z => nomatch z) (by rw [shapedT, shapedT]; rfl) ?_
  rw [show PyData.eqv (T a) (T b) = decide (a = b) by simp only [T, PyData.eqv, eqv_ints]]
  exact q
def rgI (a b : Int) : List Int := (List.range (b - a).toNat).map fun (i : Nat) => a + (i : Int)
theorem rgD_L (a b : Int) : PyData.list (rgD a b) = L (rgI a b) := by
  unfold rgD rgI L
  rw [List.map_map]
  rfl
theorem rgI_len (a b : Int) : (rgI a b).length = (b - a).toNat := by simp [rgI]
theorem moved_nodup {row : List Int} {x : Int} (h : row.Nodup) : (movedL row x).Nodup := by
  unfold movedL
  split
  · exact h.sublist (List.take_sublist _ _)
  · rename_i c
    rw [List.nodup_append]
    exact ⟨h, by simp, fun a ha b hb e => c (by rw [← List.mem_singleton.mp hb, ← e]; exact ha)⟩
theorem play_nodup {xs : List Int} : ∀ {row : List Int}, row.Nodup → (play row xs).Nodup := by
  induction xs with
  | nil => exact fun h => h
  | cons x xs ih => exact fun h => by rw [play_cons]; exact ih (moved_nodup h)
theorem in_rg {x : Int} (h0 : 0 ≤ x) (h1 : x ≤ 59) : x ∈ rgI 0 60 := by
  unfold rgI
  exact List.mem_map.mpr ⟨x.toNat, List.mem_range.mpr (by omega), by omega⟩
/-! ### _law_pair_right -/
theorem way_mem {a b : List Int} {y : Int} (h : y ∈ way a b) : y ∈ a ∨ y ∈ b := by
  unfold way at h
  rcases List.mem_append.mp h with z | z
  · exact .inl (List.mem_of_mem_drop (List.mem_of_mem_take z))
  · exact .inr (List.mem_of_mem_drop z)
theorem way_60 {a b : List Int} (oa : okL a) (ob : okL b) : In60 (way a b) ∧ (way a b).length ≤ 61 := by
  refine ⟨fun y hy => (way_mem hy).elim (oa.2.1 y) (ob.2.1 y), ?_⟩
  have := ob.1
  rw [way_len]
  split <;> omega
theorem way_okC {a b : List Int} (oa : okL a) (ob : okL b) (h : way a b ≠ []) : okC (way a b) := by
  have h1 := way_60 oa ob
  refine ⟨?_, by have := h1.2; omega, h1.1⟩
  cases e : way a b with
  | nil => exact absurd e h
  | cons _ _ => simp
theorem okC_takeX {cs : List Int} (h : okC cs) : okC (cs.take 1) :=
  ⟨by rw [List.length_take]; have := h.1; omega, by rw [List.length_take]; omega, fun x hx => h.2.2 x (List.mem_of_mem_take hx)⟩
theorem okL_take {a : List Int} (h : okL a) (n : Nat) : okL (a.take n) :=
  ⟨by rw [List.length_take]; have := h.1; omega, fun x hx => h.2.1 x (List.mem_of_mem_take hx), h.2.2.sublist (List.take_sublist _ _)⟩
theorem okL_of {a : List Int} (h : In60 a) (n : a.Nodup) : okL a := by
  refine ⟨?_, h, n⟩
  have := nodup_le n (fun y hy => in_rg (h y hy).1 (h y hy).2)
  rwa [rgI_len] at this
theorem okL_play {a cs : List Int} (h : okL a) (hc : In60 cs) : okL (play a cs) :=
  okL_of (fun y hy => (play_mem hy).elim (h.2.1 y) (hc y)) (play_nodup h.2.2)
theorem can_LT {a b : List Int} (la : a.length ≤ 1000) (lb : b.length ≤ 1000) (ha : ∀ x ∈ a, 0 ≤ x ∧ x < 1000) (hb : ∀ x ∈ b, 0 ≤ x ∧ x < 1000) : CanShow (.list [T a, T b]) := by
  obtain ⟨a1, a2, a3, a4⟩ := wt_ints a ha
  obtain ⟨b1, b2, b3, b4⟩ := wt_ints b hb
  refine ⟨?_, ?_, ?_, ?_⟩
  · simp only [T, PyData.showable, PyData.showableAll, a2, b2]; rfl
  · simp only [T, wtD, wtAll]; omega
  · simp only [T, PyData.depth, PyData.depthAll, a3, b3]; omega
  · simp only [T, PyData.hasDict, PyData.hasDictAll, a4, b4]; rfl

theorem can_L1 {a : List Int} (la : a.length ≤ 1000) (ha : ∀ x ∈ a, 0 ≤ x ∧ x < 1000) : CanShow (.list [T a]) := by
  obtain ⟨a1, a2, a3, a4⟩ := wt_ints a ha
  refine ⟨?_, ?_, ?_, ?_⟩
  · simp only [T, PyData.showable, PyData.showableAll, a2]; rfl
  · simp only [T, wtD, wtAll]; omega
  · simp only [T, PyData.depth, PyData.depthAll, a3]; omega
  · simp only [T, PyData.hasDict, PyData.hasDictAll, a4]; rfl
theorem len_T (a : List Int) : ((List.map DV.imm (List.map PyData.int a)).length : Int) = (a.length : Int) := by simp
theorem at_get {a : List Int} {i : Nat} {x : Int} (h : a[i]? = some x) : atI ((a.map PyData.int).map DV.imm) (i : Int) = some (dI x) := by
  have hi := (List.getElem?_eq_some_iff.mp h).1
  unfold atI
  rw [show ixN ((a.map PyData.int).map DV.imm).length (i : Int) = some i by
    unfold ixN
    rw [List.length_map, List.length_map]
    simp
    omega]
  show ((a.map PyData.int).map DV.imm)[i]? = _
  rw [List.map_map, List.getElem?_map, h]
  rfl
def sp__law_pair_right : DSp := fun ds μ R => ∃ a b, ds = [.imm (T a), .imm (T b)] ∧ μ = [] ∧ okL a ∧ okL b ∧ ∀ μ', R (dB true) μ'
theorem go__law_pair_right : ∀ ds μ R, sp__law_pair_right ds μ R → t__law_pair_right P w K sp__law_played sp_route (ends R) ⟨ds.map some ++ List.replicate (5 - ds.length) none, μ⟩ := by
  rintro ds μ R ⟨a, b, rfl, rfl, oa, ob, h⟩
  have pw := play_way oa.2.2 ob.2.2
  have w60 := way_60 oa ob
  have la := oa.1
  have lb := ob.1
  have ia : ∀ x ∈ a, 0 ≤ x ∧ x < 1000 := fun x hx => by have := oa.2.1 x hx; omega
  have ib : ∀ x ∈ b, 0 ≤ x ∧ x < 1000 := fun x hx => by have := ob.2.1 x hx; omega
  have iw : ∀ x ∈ way a b, 0 ≤ x ∧ x < 1000 := fun x hx => by have := w60.1 x hx; omega
  have lw := w60.2
  have hp := pre_le a b
  have cab := can_LT (a := a) (b := b) (by omega) (by omega) ia ib
  have cww := can_LT (a := way a b) (b := way a b) (by omega) (by omega) iw iw
  obtain ⟨sab, hab⟩ : ∃ s, (PyData.list [T a, T b]).shown = s := ⟨_, rfl⟩
  obtain ⟨sww, hww⟩ : ∃ s, (PyData.list [T (way a b), T (way a b)]).shown = s := ⟨_, rfl⟩
  unfold t__law_pair_right
  simp only [List.map_cons, List.map_nil, List.length_cons, List.length_nil, Nat.reduceAdd, Nat.reduceSub, List.replicate, List.cons_append, List.nil_append]
  walk_at "dy"
  refine r_lst ?_
  walk_at "dy"
  refine r_repr cab ?_
  rw [hab]
  walk_at "dy"
  refine r_while (fun m S => ∃ i, m = pre a b - i ∧ i ≤ pre a b ∧ S = ⟨[some (.imm (T a)), some (.imm (T b)), some (dS sab), some (dI (i : Nat)), none], []⟩) (pre a b) ⟨0, rfl, Nat.zero_le _, rfl⟩ ?_
  rintro m S1 ⟨i, rfl, hi, rfl⟩
  walk_at "dy"
  have hlen : (if ((b.length : Nat) : Int) < ((a.length : Nat) : Int) then ((b.length : Nat) : Int) else ((a.length : Nat) : Int)) = ((min a.length b.length : Nat) : Int) := by split <;> omega
  rw [len_T, len_T, hlen]
  have fin : (dSeq (dAsg (dOp (gOr gAdd gAddC) (dSl (dVar 0) (dPart (dVar 3)) (dPart (dOp (gOr gAdd gAddC) (dVar 3) (dC (dI 1))))) (dSl (dVar 1) (dPart (dVar 3)) dNoPart)) (dgName 4))
    (dSeq (dIfS (dTest (dOp gNeX (dCB gRepr (dCons (dLstX (dCons (dCallX sp_route [] (dCons (dVar 0) (dCons (dVar 1) dNil))) (dCons (dCallX sp_route [] (dCons (dVar 0) (dCons (dVar 1) dNil))) dNil))) dNil)) (dCB gRepr (dCons (dLstX (dCons (dVar 4) (dCons (dVar 4) dNil))) dNil)))) (dRetW P w K (dC (dB false))) dNext)
    (dRetW P w K (dAndV (dOp gEqX (dCallX sp__law_played [] (dCons (dVar 0) (dCons (dVar 4) dNil))) (dVar 1)) (dOp gEqX (dCB gRepr (dCons (dLstX (dCons (dVar 0) (dCons (dVar 1) dNil))) dNil)) (dVar 2)))))) (ends R)
      ⟨[some (.imm (T a)), some (.imm (T b)), some (dS sab), some (dI (pre a b : Nat)), none], []⟩ := by
    walk_at "dy"
    refine r_kSl rfl (allImm_map _) ?_
    walk_at "dy"
    refine r_kSl rfl (allImm_map _) ?_
    walk_at "dy"
    have c1 := cut_two (a.map PyData.int) (pre a b) (pre a b + 1)
    have c2 := cut_from (b.map PyData.int) (pre a b)
    rw [show ((pre a b : Nat) : Int) + 1 = ((pre a b + 1 : Nat) : Int) by omega, c1, c2, show pre a b + 1 - pre a b = 1 by omega]
    refine r_addT (by simp [sizeLine_eq]; omega) ?_
    walk_at "dy"
    have ew : PyData.tuple (List.take 1 (List.drop (pre a b) (List.map PyData.int a)) ++ List.drop (pre a b) (List.map PyData.int b)) = T (way a b) := by
      unfold way T
      rw [List.map_append, List.map_take, List.map_drop, List.map_drop]
    rw [ew]
    refine r_lst ?_
    walk_at "dy"
    refine r_callI rfl ⟨a, b, rfl, rfl, oa, ob, fun μ' => ?_⟩
    walk_at "dy"
    refine r_callI rfl ⟨a, b, rfl, rfl, oa, ob, fun μ' => ?_⟩
    walk_at "dy"
    refine r_repr cww ?_
    rw [hww]
    walk_at "dy"
    refine r_lst ?_
    walk_at "dy"
    refine r_repr cww ?_
    rw [hww]
    walk_at "dy"
    refine r_iteF (by simp) ?_
    walk_at "dy"
    refine r_callI rfl ⟨a, way a b, rfl, rfl, by omega, by omega, fun μ' => ?_⟩
    rw [pw]
    walk_at "dy"
    refine r_eqT ?_
    rw [decide_eq_true rfl]
    walk_at "dy"
    refine r_lst ?_
    walk_at "dy"
    refine r_repr cab ?_
    rw [hab]
    walk_at "dy"
    rw [decide_eq_true rfl]
    exact h _
  refine r_ite (fun e => ?_) (fun e => ?_)
  · have e : i < min a.length b.length := by simpa using e
    have ha := List.getElem?_eq_getElem (show i < a.length by omega)
    have hb := List.getElem?_eq_getElem (show i < b.length by omega)
    have hh := pre_here hi ha hb
    walk_at "dy"
    refine r_at rfl rfl (at_get ha) ?_
    walk_at "dy"
    refine r_at rfl rfl (at_get hb) ?_
    walk_at "dy"
    refine r_ite (fun e2 => ?_) (fun e2 => ?_)
    · have e2 : a[i] = b[i] := by simpa using e2
      have h3 := hh.2 e2
      walk_at "dy"
      exact ⟨_, by omega, i + 1, rfl, h3, by rw [show ((i : Nat) : Int) + 1 = ((i + 1 : Nat) : Int) by omega]⟩
    · have e2 : ¬ a[i] = b[i] := by simpa using e2
      rw [hh.1 e2] at fin
      exact fin
  · have e : ¬ i < min a.length b.length := by simpa using e
    have e2 : i = pre a b := by omega
    subst e2
    exact fin
end
end K33

set_option Elab.async false
set_option linter.all false
set_option maxRecDepth 100000
set_option autoImplicit false
set_option maxHeartbeats 8000000
namespace K33
open PySem PySem.Spec L2 DL PyProof.Rows
local macro_rules | `(tactic| walk_at "dl1") => `(tactic| ((first | (with_reducible apply r_seq) | (with_reducible apply r_asg) | ((with_reducible apply r_gn); try simp only [DSt.set, List.set_cons_succ, List.set_cons_zero, List.set_nil]) | ((with_reducible apply r_gtwo); try simp only [DSt.set, List.set_cons_succ, List.set_cons_zero, List.set_nil]) | ((with_reducible apply r_var); · exact rfl) | (with_reducible apply r_c) | (with_reducible apply r_op) | (with_reducible apply r_un) | (with_reducible apply r_test) | (with_reducible apply r_kTest) | (with_reducible apply r_and) | (with_reducible apply r_or) | (with_reducible apply r_not) | (with_reducible apply r_if) | (with_reducible apply r_andV) | (with_reducible apply r_orV) | (with_reducible apply r_notV) | (with_reducible apply r_chain) | (with_reducible apply r_nil) | (with_reducible apply r_cons) | (with_reducible apply r_tup) | ((with_reducible apply r_kTup); (· exact rfl); (· exact Nat.le_of_ble_eq_true rfl)) | ((with_reducible apply r_kLstC); (· exact Nat.le_of_ble_eq_true rfl)) | ((with_reducible apply r_kLst); (· exact rfl); (· exact Nat.le_of_ble_eq_true rfl)) | (with_reducible apply r_cb) | (with_reducible apply r_cmp) | (with_reducible apply r_add) | (with_reducible apply r_sub) | (with_reducible apply r_neg) | (with_reducible apply r_min) | ((with_reducible apply r_isN); · exact rfl) | ((with_reducible apply r_notN); · exact rfl) | ((with_reducible apply r_isi); · decide) | ((with_reducible apply r_len); (· exact rfl); (· exact rfl)) | (with_reducible apply r_call) | (with_reducible apply r_retI) | (with_reducible apply r_for) | (with_reducible apply r_dc) | (with_reducible apply r_iAny) | ((with_reducible apply r_kAny); · exact rfl) | (with_reducible apply r_iR1) | (with_reducible apply r_iR2) | (with_reducible apply r_iEn) | ((with_reducible apply r_kEn); · exact rfl) | (with_reducible apply r_drop) | (with_reducible apply r_retK) | (with_reducible apply r_kRet) | (with_reducible apply r_ifS) | (with_reducible apply r_next) | (with_reducible apply r_yes) | (with_reducible apply r_brk) | (with_reducible apply r_cont)) <;> try dsimp only))
local macro_rules | `(tactic| walk_at "dl") => `(tactic| (repeat walk_at "dl1"))
local macro_rules | `(tactic| walk_at "dlm") => `(tactic| ((first | walk_at "dl1" | ((first | (with_reducible apply r_bm) | (with_reducible apply r_bm0) | (with_reducible apply r_eqI) | (with_reducible apply r_neI) | (with_reducible apply r_eqS) | (with_reducible apply r_neS)) <;> try dsimp only))))
local macro_rules | `(tactic| walk_at "dx") => `(tactic| (repeat walk_at "dlm"))
local macro_rules | `(tactic| walk_at "dy1") => `(tactic| ((first | walk_at "dlm" | ((first | (with_reducible apply r_dput) | (with_reducible apply r_sl) | (with_reducible apply r_noPart) | (with_reducible apply r_part) | (with_reducible apply r_kPart) | (with_reducible apply r_rg1) | (with_reducible apply r_kRg1) | (with_reducible apply r_rg2) | (with_reducible apply r_kRg2) | (with_reducible apply r_rev) | (with_reducible apply r_lstRg) | (with_reducible apply r_tupRg) | (with_reducible apply r_newD) | (with_reducible apply r_par) | ((with_reducible apply r_kPar); try simp only [DSt.set, List.set_cons_succ, List.set_cons_zero, List.set_nil]) | (with_reducible apply r_parN) | ((with_reducible apply r_kParN); (· exact Nat.le_of_ble_eq_true rfl); (· exact rfl); (try simp only [DSt.set, DSt.new, List.set_cons_succ, List.set_cons_zero, List.set_nil, List.cons_append, List.nil_append, List.length_cons, List.length_nil, Nat.reduceAdd]))) <;> try dsimp only))))
local macro_rules | `(tactic| walk_at "dy") => `(tactic| (repeat walk_at "dy1"))
section
variable {P : Program} {w : World} {K : PySem.W.Frag}
theorem rgI_mem {a b x : Int} (h : x ∈ rgI a b) : a ≤ x ∧ x < b := by
  obtain ⟨i, hi, rfl⟩ := List.mem_map.mp h
  have := List.mem_range.mp hi
  omega
theorem at_ints {ns : List Int} {r : Int} (h0 : 0 ≤ r) (h1 : r < ns.length) : ∃ x, x ∈ ns ∧ atI ((ns.map PyData.int).map DV.imm) r = some (dI x) := by
  have hr : r.toNat < ns.length := by omega
  refine ⟨ns[r.toNat], List.getElem_mem hr, ?_⟩
  have e : atI ((ns.map PyData.int).map DV.imm) ((r.toNat : Nat) : Int) = some (dI ns[r.toNat]) := atI_nat (by rw [List.map_map, List.getElem?_map, List.getElem?_eq_getElem (by simpa using hr)]; simp)
  rwa [show ((r.toNat : Nat) : Int) = r by omega] at e
theorem call_spoon {S : DSt} {R : DV → DSt → Prop} {k : Nat} {b x0 x1 x2 c : Int} (hk : S.μ[k]? = some (some (shD x0 x1 x2))) (sh : Sh c x0 x1 x2) (hc : c ≤ 10 ^ 9) (b0 : 0 < b) (b1 : b < 10 ^ 45)
    (q : ∀ r y0 y1 y2, 0 ≤ r → r < b → Sh (c + 1) y0 y1 y2 → R (dI r) ⟨S.ρ, S.μ.set k (some (shD y0 y1 y2))⟩) : ∃ ks, kCall sp__law_spoon R ([.cell k, dI b] ++ []) S ks := by
  have hkl := (List.getElem?_eq_some_iff.mp hk).1
  refine r_callC (k := k) (o := shD x0 x1 x2) (es' := [.cell 0, dI b]) hkl (by simp [renDs, renD]) ?_ ?_
  · show (match S.μ[k]? with | some (some o) => if o.bare = true then some o else none | _ => none) :: cellsOf S.μ [] = _
    rw [hk]; rfl
  · refine ⟨b, x0, x1, x2, c, rfl, rfl, sh, hc, b0, b1, fun r y0 y1 y2 μ' r0 r1 s hm => ?_⟩
    exact r_retC (o := shD y0 y1 y2) rfl hm (q r y0 y1 y2 r0 r1 s)
theorem call_shuffled {S : DSt} {R : DV → DSt → Prop} {k : Nat} {ts : List Int} {x0 x1 x2 c : Int} (hk : S.μ[k]? = some (some (shD x0 x1 x2))) (sh : Sh c x0 x1 x2) (hc : c ≤ 10 ^ 8) (hl : ts.length ≤ 1000)
    (q : ∀ rs y0 y1 y2, rs.Perm ts → Sh (c + ts.length) y0 y1 y2 → R (.imm (L rs)) ⟨S.ρ, S.μ.set k (some (shD y0 y1 y2))⟩) : ∃ ks, kCall sp__law_shuffled R ([.cell k, .imm (L ts)] ++ []) S ks := by
  have hkl := (List.getElem?_eq_some_iff.mp hk).1
  refine r_callC (k := k) (o := shD x0 x1 x2) (es' := [.cell 0, .imm (L ts)]) hkl (by simp [renDs, renD]) ?_ ?_
  · show (match S.μ[k]? with | some (some o) => if o.bare = true then some o else none | _ => none) :: cellsOf S.μ [] = _
    rw [hk]; rfl
  · refine ⟨ts, x0, x1, x2, c, rfl, rfl, sh, hc, hl, fun rs y0 y1 y2 μ' hp s hm => ?_⟩
    exact r_retC (o := shD y0 y1 y2) rfl hm (q rs y0 y1 y2 hp s)
theorem nodup_rgI (a b : Int) : (rgI a b).Nodup := by
  unfold rgI
  generalize (b - a).toNat = n
  induction n with
  | zero => exact List.nodup_nil
  | succ n ih =>
    rw [List.range_succ, List.map_append, List.nodup_append]
    refine ⟨ih, by simp, ?_⟩
    intro x hx y hy e
    obtain ⟨i, hi, rfl⟩ := List.mem_map.mp hx
    simp only [List.map_cons, List.map_nil, List.mem_singleton] at hy
    have := List.mem_range.mp hi
    omega
theorem len_L (a : List Int) : ((List.map DV.imm (List.map PyData.int a)).length : Int) = (a.length : Int) := by simp
theorem cut_L {a : List Int} {z : Int} (h : 0 ≤ z) : DL.cutD (List.map PyData.int a) none (some z) = List.map PyData.int (a.take z.toNat) := by
  rw [List.map_take]
  have := cut_to (List.map PyData.int a) z.toNat
  rwa [show ((z.toNat : Nat) : Int) = z by omega] at this
theorem filt_L (p : Int → Bool) : ∀ rs : List Int, ((((rs.map PyData.int).map DV.imm).map DY.one).filter fun y => match y with | .one (.imm (.int x)) => p x | _ => false).map (fun y => match y with | .one (.imm q) => q | _ => PyData.none) = (rs.filter p).map PyData.int
  | [] => rfl
  | x :: rs => by
    have ih := filt_L p rs
    rw [List.map_cons, List.map_cons, List.map_cons]
    by_cases c : p x = true
    · rw [List.filter_cons_of_pos (by exact c), List.filter_cons_of_pos c, List.map_cons, List.map_cons, ih]
    · rw [List.filter_cons_of_neg (by exact c), List.filter_cons_of_neg c, ih]
/-! ### _law_pair -/
theorem take_okL {xs : List Int} (h : okL xs) (n : Nat) : okL (xs.take n) := okL_take h n
theorem rev_okL {xs : List Int} (h : okL xs) : okL xs.reverse := ⟨by rw [List.length_reverse]; exact h.1, fun x hx => h.2.1 x (List.mem_reverse.mp hx), (List.reverse_perm xs).nodup_iff.mpr h.2.2⟩
theorem okL_app {xs ys : List Int} (hx : okL xs) (hy : okL ys) (d : ∀ y ∈ ys, y ∉ xs) : okL (xs ++ ys) :=
  okL_of (fun x hx' => (List.mem_append.mp hx').elim (hx.2.1 x) (hy.2.1 x)) (by rw [List.nodup_append]; exact ⟨hx.2.2, hy.2.2, fun a ha b hb e => d b hb (e ▸ ha)⟩)
theorem okL_turn {xs : List Int} (h : okL xs) (n : Nat) : okL (xs.take n ++ (xs.drop n).reverse) :=
  okL_of (fun x hx => (List.mem_append.mp hx).elim (fun z => h.2.1 x (List.mem_of_mem_take z)) (fun z => h.2.1 x (List.mem_of_mem_drop (List.mem_reverse.mp z)))) (by
    have : (xs.take n ++ (xs.drop n).reverse).Perm xs := by
      have h1 : (xs.take n ++ (xs.drop n).reverse).Perm (xs.take n ++ xs.drop n) := List.Perm.append_left _ (List.reverse_perm _)
      rwa [List.take_append_drop] at h1
    exact this.nodup_iff.mpr h.2.2)
theorem cut_fromL {a : List Int} {z : Int} (h : 0 ≤ z) : DL.cutD (List.map PyData.int a) (some z) none = List.map PyData.int (a.drop z.toNat) := by
  rw [List.map_drop]
  have := cut_from (List.map PyData.int a) z.toNat
  rwa [show ((z.toNat : Nat) : Int) = z by omega] at this
theorem pick5 {a b c d e : List Int} {w : Int} (w0 : 0 ≤ w) (w1 : w < 5) (oa : okL a) (ob : okL b) (oc : okL c) (od : okL d) (oe : okL e) :
    ∃ o, okL o ∧ atI [DV.imm (L a), DV.imm (L b), DV.imm (L c), DV.imm (L d), DV.imm (L e)] w = some (.imm (L o)) := by
  have : w = 0 ∨ w = 1 ∨ w = 2 ∨ w = 3 ∨ w = 4 := by omega
  rcases this with rfl | rfl | rfl | rfl | rfl
  · exact ⟨a, oa, rfl⟩
  · exact ⟨b, ob, rfl⟩
  · exact ⟨c, oc, rfl⟩
  · exact ⟨d, od, rfl⟩
  · exact ⟨e, oe, rfl⟩
theorem pick2 {a b : PyData} {w : Int} (w0 : 0 ≤ w) (w1 : w < 2) : atI [DV.imm a, DV.imm b] w = some (.imm (if w = 0 then a else b)) := by
  have : w = 0 ∨ w = 1 := by omega
  rcases this with rfl | rfl <;> rfl
def sp__law_pair : DSp := fun ds μ R => ∃ x0 x1 x2 c, ds = [.cell 0] ∧ μ = [some (shD x0 x1 x2)] ∧ Sh c x0 x1 x2 ∧ c ≤ 10 ^ 7 ∧
  ∀ a b y0 y1 y2 μ', okL a → okL b → Sh (c + 200) y0 y1 y2 → μ'[0]? = some (some (shD y0 y1 y2)) → R (.imm (.tuple [T a, T b])) μ'
theorem go__law_pair : ∀ ds μ R, sp__law_pair ds μ R → t__law_pair P w K sp__law_spoon sp__law_shuffled (ends R) ⟨ds.map some ++ List.replicate (10 - ds.length) none, μ⟩ := by
  rintro ds μ R ⟨x0, x1, x2, c, rfl, rfl, sh, hc, h⟩
  unfold t__law_pair
  simp only [List.map_cons, List.map_nil, List.length_cons, List.length_nil, Nat.reduceAdd, Nat.reduceSub, List.replicate, List.cons_append, List.nil_append]
  walk_at "dy"
  refine r_kLstRg ⟨by omega, by omega, by omega, by omega⟩ ?_
  rw [rgD_L]
  walk_at "dy"
  refine call_shuffled rfl sh (by omega) (by rw [rgI_len]; omega) fun cars y0 y1 y2 hp sh1 => ?_
  rw [rgI_len] at sh1
  have hcars : cars.length = 60 := by rw [hp.length_eq, rgI_len]; omega
  have oc : okL cars := ⟨by omega, fun x hx => by have := rgI_mem (hp.mem_iff.mp hx); omega, hp.nodup_iff.mpr (nodup_rgI 0 60)⟩
  simp only [List.set_cons_zero]
  walk_at "dy"
  refine call_spoon rfl sh1 (by omega) (by omega) (by omega) fun way a0 a1 a2 w0 w1 sh2 => ?_
  simp only [List.set_cons_zero]
  walk_at "dy"
  refine r_lst ?_
  walk_at "dy"
  refine call_spoon rfl sh2 (by omega) (by omega) (by omega) fun r1 b0 b1 b2 p0 p1 sh3 => ?_
  simp only [List.set_cons_zero]
  walk_at "dy"
  refine call_spoon rfl sh3 (by omega) (by omega) (by omega) fun r2 c0 c1 c2 q0 q1 sh4 => ?_
  simp only [List.set_cons_zero]
  walk_at "dy"
  refine call_spoon rfl sh4 (by omega) (by omega) (by omega) fun r3 d0 d1 d2 s0 s1 sh5 => ?_
  simp only [List.set_cons_zero]
  walk_at "dy"
  obtain ⟨x, hx, ex⟩ := at_ints (ns := [r1, 60, r2]) s0 s1
  have x01 : 0 ≤ x ∧ x ≤ 60 := by simp at hx; omega
  refine r_at rfl rfl ex ?_
  walk_at "dy"
  refine r_kSl rfl (allImm_map _) ?_
  rw [if_pos rfl, cut_L x01.1]
  have oo : okL (cars.take x.toNat) := okL_take oc _
  generalize cars.take x.toNat = one at oo ⊢
  have lo := oo.1
  walk_at "dy"
  rw [len_L]
  refine call_spoon rfl sh5 (by omega) (by omega) (by omega) fun cut e0 e1 e2 t0 t1 sh6 => ?_
  simp only [List.set_cons_zero]
  walk_at "dy"
  refine call_shuffled rfl sh6 (by omega) (by omega) fun rest f0 f1 f2 hp2 sh7 => ?_
  rw [hcars] at sh7
  have orr : okL rest := ⟨by rw [hp2.length_eq]; exact oc.1, fun x hx => oc.2.1 x (hp2.mem_iff.mp hx), hp2.nodup_iff.mpr oc.2.2⟩
  simp only [List.set_cons_zero]
  walk_at "dy"
  refine r_lc ?_
  walk_at "dy"
  refine lc_run (fun _ => True.intro) (by have := orr.1; simp [sizeLine_eq]; omega) (fun y => match y with | .one (.imm (.int x)) => !decide (x ∈ one.take cut.toNat) | _ => false) (fun y => match y with | .one (.imm q) => q | _ => .none) ?_ ?_
  · intro y hy N hN
    rw [ones] at hy
    obtain ⟨x, hx, rfl⟩ := List.mem_map.mp hy
    walk_at "dy"
    refine r_kSl rfl (allImm_map _) ?_
    rw [if_pos rfl, cut_L t0]
    walk_at "dy"
    refine r_inI rfl rfl (ints_allI _) ?_
    walk_at "dy"
    by_cases hm : x ∈ one.take cut.toNat
    · refine r_iteF (by simp only [hm]; rfl) ?_
      simpa [hm] using hN
    · refine r_iteT (by simp only [hm]; rfl) ?_
      walk_at "dy"
      rw [if_pos (by simp [hm])] at hN
      exact hN
  rw [filt_L]
  have oq : okL (one.take cut.toNat) := okL_take oo _
  have ofr : okL (rest.filter fun x => !decide (x ∈ one.take cut.toNat)) := ⟨Nat.le_trans (List.length_filter_le _ _) orr.1, fun x hx => orr.2.1 x (List.mem_filter.mp hx).1, orr.2.2.filter _⟩
  have dfr : ∀ x ∈ rest.filter (fun x => !decide (x ∈ one.take cut.toNat)), x ∉ one.take cut.toNat := fun x hx => by simpa using (List.mem_filter.mp hx).2
  generalize (rest.filter fun x => !decide (x ∈ one.take cut.toNat)) = fresh at ofr dfr ⊢
  walk_at "dy"
  have lr := orr.1
  have lf := ofr.1
  have lq := oq.1
  refine r_lst ?_
  walk_at "dy"
  refine call_spoon rfl sh7 (by omega) (by omega) (by omega) fun r4 g0 g1 g2 t2 t3 sh8 => ?_
  simp only [List.set_cons_zero]
  walk_at "dy"
  refine r_kSl rfl (allImm_map _) ?_
  rw [if_pos rfl, cut_L t2]
  walk_at "dy"
  refine r_kSl rfl (allImm_map _) ?_
  rw [if_pos rfl, cut_L t0]
  walk_at "dy"
  rw [len_L]
  refine call_spoon rfl sh8 (by omega) (by omega) (by omega) fun r5 h0 h1 h2 t4 t5 sh9 => ?_
  simp only [List.set_cons_zero]
  walk_at "dy"
  refine r_kSl rfl (allImm_map _) ?_
  rw [if_pos rfl, cut_L t4]
  refine r_addLI (by simp only [List.length_map, List.length_take]; rw [sizeLine_eq]; omega) ?_
  rw [← List.map_append]
  walk_at "dy"
  refine r_kSl rfl (allImm_map _) ?_
  rw [if_pos rfl, cut_L t0]
  walk_at "dy"
  refine r_revS ?_
  walk_at "dy"
  refine r_kRevS (x := .imm (L one)) (es := (one.map PyData.int).map DV.imm) rfl (allImm_map _) ?_
  rw [← List.map_reverse]
  have q0 : okL (rest.take r4.toNat) := okL_take orr _
  have q1' : okL (one.take cut.toNat ++ fresh.take r5.toNat) := okL_app oq (okL_take ofr _) fun y hy => dfr y (List.mem_of_mem_take hy)
  have q3 : okL one.reverse := rev_okL oo
  have q4 := okL_turn oo cut.toNat
  generalize rest.take r4.toNat = o0 at q0 ⊢
  generalize one.take cut.toNat ++ fresh.take r5.toNat = o1 at q1' ⊢
  generalize one.reverse = o3 at q3 ⊢
  walk_at "dy"
  refine r_lst ?_
  walk_at "dy"
  refine r_kSl rfl (allImm_map _) ?_
  rw [if_pos rfl, cut_L t0]
  walk_at "dy"
  refine r_revS ?_
  walk_at "dy"
  refine r_kSl rfl (allImm_map _) ?_
  rw [if_pos rfl, cut_fromL t0]
  walk_at "dy"
  refine r_kRevS (x := .imm (L (one.drop cut.toNat))) (es := ((one.drop cut.toNat).map PyData.int).map DV.imm) rfl (allImm_map _) ?_
  rw [← List.map_reverse]
  refine r_addLI (by simp only [List.length_map, List.length_take, List.length_reverse, List.length_drop]; rw [sizeLine_eq]; omega) ?_
  rw [← List.map_append]
  generalize one.take cut.toNat ++ (one.drop cut.toNat).reverse = o4 at q4 ⊢
  walk_at "dy"
  refine r_addLI (by simp [sizeLine_eq]) ?_
  walk_at "dy"
  obtain ⟨o, ok, eo⟩ := pick5 w0 w1 q0 q1' oq q3 q4
  refine r_at rfl rfl eo ?_
  walk_at "dy"
  refine r_lst ?_
  walk_at "dy"
  refine r_tupOf rfl (allImm_map _) ?_
  walk_at "dy"
  refine r_tupOf rfl (allImm_map _) ?_
  walk_at "dy"
  refine r_tupOf rfl (allImm_map _) ?_
  walk_at "dy"
  refine r_tupOf rfl (allImm_map _) ?_
  walk_at "dy"
  refine call_spoon rfl sh9 (by omega) (by omega) (by omega) fun r6 i0 i1 i2 t6 t7 sh10 => ?_
  simp only [List.set_cons_zero]
  walk_at "dy"
  refine r_at rfl rfl (pick2 t6 t7) ?_
  walk_at "dy"
  by_cases hz : r6 = 0
  · rw [if_pos hz]
    exact h one o _ _ _ _ oo ok (sh10.mono (by omega)) rfl
  · rw [if_neg hz]
    exact h o one _ _ _ _ ok oo (sh10.mono (by omega)) rfl
end
end K33

set_option Elab.async false
set_option linter.all false
set_option maxRecDepth 100000
set_option autoImplicit false
set_option maxHeartbeats 8000000
namespace K33
open PySem PySem.Spec L2 DL PyProof.Rows
local macro_rules | `(tactic| walk_at "dl1") => `(tactic| ((first | (with_reducible apply r_seq) | (with_reducible apply r_asg) | ((with_reducible apply r_gn); try simp only [DSt.set, List.set_cons_succ, List.set_cons_zero, List.set_nil]) | ((with_reducible apply r_gtwo); try simp only [DSt.set, List.set_cons_succ, List.set_cons_zero, List.set_nil]) | ((with_reducible apply r_var); · exact rfl) | (with_reducible apply r_c) | (with_reducible apply r_op) | (with_reducible apply r_un) | (with_reducible apply r_test) | (with_reducible apply r_kTest) | (with_reducible apply r_and) | (with_reducible apply r_or) | (with_reducible apply r_not) | (with_reducible apply r_if) | (with_reducible apply r_andV) | (with_reducible apply r_orV) | (with_reducible apply r_notV) | (with_reducible apply r_chain) | (with_reducible apply r_nil) | (with_reducible apply r_cons) | (with_reducible apply r_tup) | ((with_reducible apply r_kTup); (· exact rfl); (· exact Nat.le_of_ble_eq_true rfl)) | ((with_reducible apply r_kLstC); (· exact Nat.le_of_ble_eq_true rfl)) | ((with_reducible apply r_kLst); (· exact rfl); (· exact Nat.le_of_ble_eq_true rfl)) | (with_reducible apply r_cb) | (with_reducible apply r_cmp) | (with_reducible apply r_add) | (with_reducible apply r_sub) | (with_reducible apply r_neg) | (with_reducible apply r_min) | ((with_reducible apply r_isN); · exact rfl) | ((with_reducible apply r_notN); · exact rfl) | ((with_reducible apply r_isi); · decide) | ((with_reducible apply r_len); (· exact rfl); (· exact rfl)) | (with_reducible apply r_call) | (with_reducible apply r_retI) | (with_reducible apply r_for) | (with_reducible apply r_dc) | (with_reducible apply r_iAny) | ((with_reducible apply r_kAny); · exact rfl) | (with_reducible apply r_iR1) | (with_reducible apply r_iR2) | (with_reducible apply r_iEn) | ((with_reducible apply r_kEn); · exact rfl) | (with_reducible apply r_drop) | (with_reducible apply r_retK) | (with_reducible apply r_kRet) | (with_reducible apply r_ifS) | (with_reducible apply r_next) | (with_reducible apply r_yes) | (with_reducible apply r_brk) | (with_reducible apply r_cont)) <;> try dsimp only))
local macro_rules | `(tactic| walk_at "dl") => `(tactic| (repeat walk_at "dl1"))
local macro_rules | `(tactic| walk_at "dlm") => `(tactic| ((first | walk_at "dl1" | ((first | (with_reducible apply r_bm) | (with_reducible apply r_bm0) | (with_reducible apply r_eqI) | (with_reducible apply r_neI) | (with_reducible apply r_eqS) | (with_reducible apply r_neS)) <;> try dsimp only))))
local macro_rules | `(tactic| walk_at "dx") => `(tactic| (repeat walk_at "dlm"))
local macro_rules | `(tactic| walk_at "dy1") => `(tactic| ((first | walk_at "dlm" | ((first | (with_reducible apply r_dput) | (with_reducible apply r_sl) | (with_reducible apply r_noPart) | (with_reducible apply r_part) | (with_reducible apply r_kPart) | (with_reducible apply r_rg1) | (with_reducible apply r_kRg1) | (with_reducible apply r_rg2) | (with_reducible apply r_kRg2) | (with_reducible apply r_rev) | (with_reducible apply r_lstRg) | (with_reducible apply r_tupRg) | (with_reducible apply r_newD) | (with_reducible apply r_par) | ((with_reducible apply r_kPar); try simp only [DSt.set, List.set_cons_succ, List.set_cons_zero, List.set_nil]) | (with_reducible apply r_parN) | ((with_reducible apply r_kParN); (· exact Nat.le_of_ble_eq_true rfl); (· exact rfl); (try simp only [DSt.set, DSt.new, List.set_cons_succ, List.set_cons_zero, List.set_nil, List.cons_append, List.nil_append, List.length_cons, List.length_nil, Nat.reduceAdd]))) <;> try dsimp only))))
local macro_rules | `(tactic| walk_at "dy") => `(tactic| (repeat walk_at "dy1"))
section
variable {P : Program} {w : World} {K : PySem.W.Frag}
/-! ### _law_all_lanes -/
/-- a lane of these cars -/
def Gd (cars r : List Int) : Prop := r.Nodup ∧ ∀ x ∈ r, x ∈ cars
def nextR (cars r : List Int) : List (List Int) := (cars.filter fun x => !decide (x ∈ r)).map fun x => r ++ [x]
theorem nextR_gd {cars r l : List Int} (h : Gd cars r) (hl : l ∈ nextR cars r) : Gd cars l := by
  obtain ⟨x, hx, rfl⟩ := List.mem_map.mp hl
  obtain ⟨h1, h2⟩ := List.mem_filter.mp hx
  have h2 : x ∉ r := by simpa using h2
  refine ⟨?_, fun y hy => ?_⟩
  · rw [List.nodup_append]
    exact ⟨h.1, by simp, fun a ha b hb e => h2 (by rw [← List.mem_singleton.mp hb, ← e]; exact ha)⟩
  · rcases List.mem_append.mp hy with z | z
    · exact h.2 y z
    · rw [List.mem_singleton.mp z]; exact h1
theorem nextR_len (cars r : List Int) : (nextR cars r).length ≤ cars.length := by
  unfold nextR
  rw [List.length_map]
  exact List.length_filter_le _ _
theorem filt_N (r : List Int) : ∀ cs : List Int, ((((cs.map PyData.int).map DV.imm).map DY.one).filter fun y => match y with | .one (.imm (.int x)) => !decide (x ∈ r) | _ => false).map (fun y => match y with | .one (.imm (.int x)) => T (r ++ [x]) | _ => PyData.none) = (nextR cs r).map T
  | [] => rfl
  | x :: cs => by
    have ih := filt_N r cs
    rw [List.map_cons, List.map_cons, List.map_cons]
    unfold nextR at ih ⊢
    by_cases c : (!decide (x ∈ r)) = true
    · rw [List.filter_cons_of_pos (by exact c), List.filter_cons_of_pos (p := fun x => !decide (x ∈ r)) c, List.map_cons, List.map_cons, List.map_cons, ih]
    · rw [List.filter_cons_of_neg (by exact c), List.filter_cons_of_neg (p := fun x => !decide (x ∈ r)) c, ih]
def RL (rows : List (List Int)) : List DV := (rows.map T).map DV.imm
theorem r_addLC {S : DSt} {R : DV → DSt → Prop} {a : List PyData} {k : Nat} {lg : List (List Int)} (e : S.cell k = some (.lst (RL lg))) (hz : a.length + lg.length ≤ sizeLine) (q : R (.imm (.list (a ++ lg.map T))) S) : gOr gAdd gAddC (.imm (.list a)) (.cell k) S R := .inl (by
  have e2 : S.lst (.cell k) = some (RL lg) := by unfold DSt.lst; dsimp only; rw [e]
  show (match S.lst (.imm (.list a)), S.lst (.cell k) with
    | some a, some b => a.length + b.length ≤ sizeLine ∧ match allImm (a ++ b) with
      | some ps => R (.imm (.list ps)) S
      | none => False
    | _, _ => False)
  rw [e2]
  show (a.map DV.imm).length + (RL lg).length ≤ sizeLine ∧ match allImm (a.map DV.imm ++ RL lg) with | some ps => R (.imm (.list ps)) S | none => False
  unfold RL
  rw [← List.map_append, allImm_map]
  exact ⟨by simp only [List.length_map]; exact hz, q⟩)
def sp__law_all_lanes : DSp := fun ds μ R => ∃ cars, ds = [.imm (L cars)] ∧ μ = [] ∧ cars.length ≤ 4 ∧ ∀ (rows : List (List Int)) μ', (∀ r ∈ rows, Gd cars r) → rows.length ≤ 1024 → R (.imm (.list (rows.map T))) μ'
theorem go__law_all_lanes : ∀ ds μ R, sp__law_all_lanes ds μ R → t__law_all_lanes P w K (ends R) ⟨ds.map some ++ List.replicate (7 - ds.length) none, μ⟩ := by
  rintro ds μ R ⟨cars, rfl, rfl, hc, h⟩
  unfold t__law_all_lanes
  simp only [List.map_cons, List.map_nil, List.length_cons, List.length_nil, Nat.reduceAdd, Nat.reduceSub, List.replicate, List.cons_append, List.nil_append]
  walk_at "dy"
  refine r_lst ?_
  walk_at "dy"
  refine r_lst ?_
  walk_at "dy"
  rw [len_L]
  refine r_kR1 (by omega) ?_
  refine ⟨fun i S => ∃ fd lr lay z3 z4 z5 z6 μ, S = ⟨[some (.imm (L cars)), some (.imm (.list (fd.map T))), some lay, z3, z4, z5, z6], μ⟩ ∧ (∀ r ∈ fd, Gd cars r) ∧ (∀ r ∈ lr, Gd cars r) ∧ lr.length ≤ 4 ^ i ∧ fd.length ≤ 4 ^ (i + 1) ∧
    (lay = .imm (.list (lr.map T)) ∨ ∃ k, lay = .cell k ∧ μ[k]? = some (some (.lst (RL lr)))), ⟨[[]], [[]], _, _, _, _, _, _, rfl, ?_, ?_, by simp, by simp, .inl rfl⟩, fun _ _ _ _ => True.intro, ?_, ?_⟩
  · intro r hr; rw [List.mem_singleton.mp hr]; exact ⟨List.nodup_nil, fun x hx => nomatch hx⟩
  · intro r hr; rw [List.mem_singleton.mp hr]; exact ⟨List.nodup_nil, fun x hx => nomatch hx⟩
  · rintro i y S2 hy ⟨fd, lr, lay, z3, z4, z5, z6, μ, rfl, gf, gl, ll, lf, hlay⟩
    obtain ⟨hi, rfl⟩ := range_get hy
    walk_at "dy"
    refine r_lstC ?_
    walk_at "dy"
    have kl : ∀ {k : Nat} {o : DO}, μ[k]? = some (some o) → ∀ u : Option DO, (μ ++ [u])[k]? = some (some o) := fun {k o} e u => by
      rw [List.getElem?_append_left (List.getElem?_eq_some_iff.mp e).1]; exact e
    have cel : ∀ (ρ : List (Option DV)) (u : Option DO) {k : Nat} {o : DO}, μ[k]? = some (some o) → DSt.cell ⟨ρ, μ ++ [u]⟩ k = some o := fun ρ u {k o} e => by
      unfold DSt.cell
      dsimp only
      rw [kl e u]; rfl
    have hit : ∀ (ρ : List (Option DV)) (u : Option DO), ∃ St, DSt.items ⟨ρ, μ ++ [u]⟩ lay = some (RL lr, St) ∧ ∀ ρ' u', St ⟨ρ', μ ++ [u']⟩ := fun ρ u => by
      rcases hlay with rfl | ⟨k, rfl, hk⟩
      · exact ⟨fun _ => True, rfl, fun _ _ => True.intro⟩
      · refine ⟨fun S' => S'.cell k = some (.lst (RL lr)), ?_, fun ρ' u' => cel ρ' u' hk⟩
        unfold DSt.items
        dsimp only
        rw [cel ρ u hk]
    obtain ⟨St, e1, e2⟩ := hit _ _
    refine r_kAny e1 ?_
    refine ⟨fun j S => ∃ lg z5 z6, S = ⟨[some (.imm (L cars)), some (.imm (.list (fd.map T))), some lay, some (dI (0 + (i : Int))), some (.cell μ.length), z5, z6], μ ++ [some (.lst (RL lg))]⟩ ∧ (∀ r ∈ lg, Gd cars r) ∧ lg.length ≤ j * 4, ⟨[], _, _, rfl, (fun r hr => nomatch hr), by simp⟩, ?_, ?_, ?_⟩
    · rintro j S _ ⟨lg, z5, z6, rfl, _⟩
      exact e2 _ _
    · rintro j y S2 hy ⟨lg, z5, z6, rfl, gg, lg4⟩
      obtain ⟨r, hr, rfl⟩ : ∃ r, lr[j]? = some r ∧ y = .one (.imm (T r)) := by
        unfold RL at hy
        rw [List.map_map, List.map_map, List.getElem?_map] at hy
        obtain ⟨r, hr, e⟩ := Option.map_eq_some_iff.mp hy
        exact ⟨r, hr, e.symm⟩
      have gr := gl r (List.mem_of_getElem? hr)
      have hj := (List.getElem?_eq_some_iff.mp hr).1
      have hrl : r.length ≤ cars.length := nodup_le gr.1 gr.2
      walk_at "dy"
      have at1 : ∀ (ρ : List (Option DV)) (o : DO), DSt.cell ⟨ρ, μ ++ [some o]⟩ μ.length = some o := fun ρ o => by simp [DSt.cell]
      refine r_kM (at1 _ _) ?_
      walk_at "dy"
      refine r_lc ?_
      walk_at "dy"
      refine lc_run (fun _ => True.intro) (by simp [sizeLine_eq]; omega) (fun y => match y with | .one (.imm (.int x)) => !decide (x ∈ r) | _ => false) (fun y => match y with | .one (.imm (.int x)) => T (r ++ [x]) | _ => .none) ?_ ?_
      · intro y hy N hN
        rw [ones] at hy
        obtain ⟨x, hx, rfl⟩ := List.mem_map.mp hy
        walk_at "dy"
        refine r_inI rfl rfl (ints_allI r) ?_
        walk_at "dy"
        by_cases hm : x ∈ r
        · refine r_iteF (by simp only [hm]; rfl) ?_
          simpa [hm] using hN
        · refine r_iteT (by simp only [hm]; rfl) ?_
          walk_at "dy"
          rw [if_pos (by simp [hm])] at hN
          refine r_addT (by simp [sizeLine_eq]; omega) ?_
          rw [show List.map PyData.int r ++ [PyData.int x] = (r ++ [x]).map PyData.int by rw [List.map_append]; rfl]
          exact hN
      rw [filt_N]
      walk_at "dy"
      have nl := nextR_len cars r
      have hi4 : (4 : Nat) ^ i ≤ 4 ^ 4 := Nat.pow_le_pow_right (by decide) (by omega)
      refine r_extend (at1 _ _) rfl (by unfold RL; simp only [List.length_map]; rw [sizeLine_eq]; omega) ?_
      refine ⟨lg ++ nextR cars r, some (.imm (T r)), z6, ?_, fun q hq => (List.mem_append.mp hq).elim (gg q) (fun z => nextR_gd gr z), by rw [List.length_append]; omega⟩
      show (⟨_, (μ ++ [_]).set μ.length _⟩ : DSt) = _
      rw [List.set_append_right _ _ (Nat.le_refl _), Nat.sub_self]
      unfold RL
      rw [List.map_append, List.map_append]
      rfl
    · rintro S2 ⟨lg, z5, z6, rfl, gg, lg4⟩
      have hi4 : (4 : Nat) ^ i ≤ 4 ^ 4 := Nat.pow_le_pow_right (by decide) (by omega)
      have hl1 : (RL lr).length = lr.length := by unfold RL; simp
      rw [List.length_map, hl1] at lg4
      have at1 : ∀ (ρ : List (Option DV)) (o : DO), DSt.cell ⟨ρ, μ ++ [some o]⟩ μ.length = some o := fun ρ o => by simp [DSt.cell]
      walk_at "dy"
      have h16 : (4 : Nat) ^ (i + 1) = 4 * 4 ^ i := by rw [Nat.pow_succ, Nat.mul_comm]
      have h64 : (4 : Nat) ^ (i + 1 + 1) = 4 * 4 ^ (i + 1) := by rw [Nat.pow_succ, Nat.mul_comm]
      refine r_addLC (at1 _ _) (by rw [List.length_map, sizeLine_eq]; omega) ?_
      rw [← List.map_append]
      walk_at "dy"
      exact ⟨fd ++ lg, lg, .cell μ.length, _, _, _, _, _, rfl, fun r hr => (List.mem_append.mp hr).elim (gf r) (gg r), gg, by omega, by rw [List.length_append]; omega, .inr ⟨μ.length, rfl, by simp⟩⟩
  · rintro S2 ⟨fd, lr, lay, z3, z4, z5, z6, μ, rfl, gf, gl, ll, lf, hlay⟩
    walk_at "dy"
    have : 4 ^ ((rangeD 0 (cars.length : Int).toNat).length + 1) ≤ 4 ^ 5 := Nat.pow_le_pow_right (by decide) (by rw [range_len]; omega)
    exact h fd _ gf (by omega)
end
end K33

set_option Elab.async false
set_option linter.all false
set_option maxRecDepth 100000
set_option autoImplicit false
set_option maxHeartbeats 8000000
namespace K33
open PySem PySem.Spec L2 DL PyProof.Rows
local macro_rules | `(tactic| walk_at "dl1") => `(tactic| ((first | (with_reducible apply r_seq) | (with_reducible apply r_asg) | ((with_reducible apply r_gn); try simp only [DSt.set, List.set_cons_succ, List.set_cons_zero, List.set_nil]) | ((with_reducible apply r_gtwo); try simp only [DSt.set, List.set_cons_succ, List.set_cons_zero, List.set_nil]) | ((with_reducible apply r_var); · exact rfl) | (with_reducible apply r_c) | (with_reducible apply r_op) | (with_reducible apply r_un) | (with_reducible apply r_test) | (with_reducible apply r_kTest) | (with_reducible apply r_and) | (with_reducible apply r_or) | (with_reducible apply r_not) | (with_reducible apply r_if) | (with_reducible apply r_andV) | (with_reducible apply r_orV) | (with_reducible apply r_notV) | (with_reducible apply r_chain) | (with_reducible apply r_nil) | (with_reducible apply r_cons) | (with_reducible apply r_tup) | ((with_reducible apply r_kTup); (· exact rfl); (· exact Nat.le_of_ble_eq_true rfl)) | ((with_reducible apply r_kLstC); (· exact Nat.le_of_ble_eq_true rfl)) | ((with_reducible apply r_kLst); (· exact rfl); (· exact Nat.le_of_ble_eq_true rfl)) | (with_reducible apply r_cb) | (with_reducible apply r_cmp) | (with_reducible apply r_add) | (with_reducible apply r_sub) | (with_reducible apply r_neg) | (with_reducible apply r_min) | ((with_reducible apply r_isN); · exact rfl) | ((with_reducible apply r_notN); · exact rfl) | ((with_reducible apply r_isi); · decide) | ((with_reducible apply r_len); (· exact rfl); (· exact rfl)) | (with_reducible apply r_call) | (with_reducible apply r_retI) | (with_reducible apply r_for) | (with_reducible apply r_dc) | (with_reducible apply r_iAny) | ((with_reducible apply r_kAny); · exact rfl) | (with_reducible apply r_iR1) | (with_reducible apply r_iR2) | (with_reducible apply r_iEn) | ((with_reducible apply r_kEn); · exact rfl) | (with_reducible apply r_drop) | (with_reducible apply r_retK) | (with_reducible apply r_kRet) | (with_reducible apply r_ifS) | (with_reducible apply r_next) | (with_reducible apply r_yes) | (with_reducible apply r_brk) | (with_reducible apply r_cont)) <;> try dsimp only))
local macro_rules | `(tactic| walk_at "dl") => `(tactic| (repeat walk_at "dl1"))
local macro_rules | `(tactic| walk_at "dlm") => `(tactic| ((first | walk_at "dl1" | ((first | (with_reducible apply r_bm) | (with_reducible apply r_bm0) | (with_reducible apply r_eqI) | (with_reducible apply r_neI) | (with_reducible apply r_eqS) | (with_reducible apply r_neS)) <;> try dsimp only))))
local macro_rules | `(tactic| walk_at "dx") => `(tactic| (repeat walk_at "dlm"))
local macro_rules | `(tactic| walk_at "dy1") => `(tactic| ((first | walk_at "dlm" | ((first | (with_reducible apply r_dput) | (with_reducible apply r_sl) | (with_reducible apply r_noPart) | (with_reducible apply r_part) | (with_reducible apply r_kPart) | (with_reducible apply r_rg1) | (with_reducible apply r_kRg1) | (with_reducible apply r_rg2) | (with_reducible apply r_kRg2) | (with_reducible apply r_rev) | (with_reducible apply r_lstRg) | (with_reducible apply r_tupRg) | (with_reducible apply r_newD) | (with_reducible apply r_par) | ((with_reducible apply r_kPar); try simp only [DSt.set, List.set_cons_succ, List.set_cons_zero, List.set_nil]) | (with_reducible apply r_parN) | ((with_reducible apply r_kParN); (· exact Nat.le_of_ble_eq_true rfl); (· exact rfl); (try simp only [DSt.set, DSt.new, List.set_cons_succ, List.set_cons_zero, List.set_nil, List.cons_append, List.nil_append, List.length_cons, List.length_nil, Nat.reduceAdd]))) <;> try dsimp only))))
local macro_rules | `(tactic| walk_at "dy") => `(tactic| (repeat walk_at "dy1"))
/-! ### shortest ways, plain -/
theorem pre_snoc (a l : List Int) (c : Int) : pre a (l ++ [c]) = pre a l ∨ (pre a l = l.length ∧ pre a (l ++ [c]) = l.length + 1 ∧ a[l.length]? = some c) := by
  induction l generalizing a with
  | nil =>
    cases a with
    | nil => exact .inl rfl
    | cons x a =>
      by_cases e : x = c
      · subst e; exact .inr ⟨by simp [pre], by simp [pre], rfl⟩
      · exact .inl (by simp [pre, e])
  | cons y l ih =>
    cases a with
    | nil => exact .inl rfl
    | cons x a =>
      by_cases e : x = y
      · subst e
        rcases ih a with h | ⟨h1, h2, h3⟩
        · exact .inl (by simp [pre, h])
        · exact .inr ⟨by simp [pre, h1], by simp [pre, h2], by simpa using h3⟩
      · exact .inl (by simp [pre, e])
theorem moved_gd {cars l : List Int} {c : Int} (h : Gd cars l) (hc : c ∈ cars) : Gd cars (movedL l c) := by
  refine ⟨moved_nodup h.1, fun y hy => ?_⟩
  rcases moved_mem hy with z | z
  · exact h.2 y z
  · rw [z]; exact hc
theorem way_call {a l : List Int} (ha : a.Nodup) (hl : l.Nodup) (c : Int) : (way a (movedL l c)).length ≤ (way a l).length ∨ way a (movedL l c) = way a l ++ [c] := by
  have hp := pre_le a l
  unfold movedL
  split
  · rename_i hc
    have hi := List.idxOf_lt_length_iff.mpr hc
    have e : l[l.idxOf c]? = some c := by rw [List.getElem?_eq_getElem hi]; simp
    generalize l.idxOf c = h at hi e ⊢
    by_cases c1 : pre a l = l.length ∧ l.length = a.length
    · have hal : a = l := by
        have := pre_same a l
        rw [c1.1, List.take_length, c1.2, List.take_length] at this
        exact this
      subst hal
      right
      have e1 : movedL a c = a.take h := moved_at ha e
      have := way_one ha c
      rw [e1] at this
      rw [this, way_self]
      rfl
    · left
      rw [way_len, way_len, pre_take, List.length_take]
      split <;> split <;> omega
  · rename_i hc
    rcases pre_snoc a l c with e | ⟨e1, e2, e3⟩
    · right
      unfold way
      rw [e, List.drop_append_of_le_length hp.2, List.append_assoc]
    · left
      have hlen := (List.getElem?_eq_some_iff.mp e3).1
      rw [way_len, way_len, e1, e2, List.length_append]
      simp only [List.length_singleton]
      split <;> (try split) <;> omega
theorem way_parent {cars a k : List Int} {n : Nat} (ga : Gd cars a) (gk : Gd cars k) (h : (way a k).length = n + 1) : ∃ l c, Gd cars l ∧ c ∈ cars ∧ (way a l).length = n ∧ movedL l c = k := by
  have hp := pre_le a k
  rw [way_len] at h
  by_cases c1 : pre a k < k.length
  · have hne : k ≠ [] := fun e => by rw [e] at c1; simp at c1
    have ek := List.dropLast_concat_getLast hne
    have hl : k.dropLast.length = k.length - 1 := List.length_dropLast
    have hd : k.dropLast = k.take (k.length - 1) := List.dropLast_eq_take
    have nd : (k.dropLast ++ [k.getLast hne]).Nodup := by rw [ek]; exact gk.1
    have nc : k.getLast hne ∉ k.dropLast := fun z => by
      rw [List.nodup_append] at nd
      exact nd.2.2 _ z _ (by simp) rfl
    refine ⟨k.dropLast, k.getLast hne, ⟨gk.1.sublist (List.dropLast_sublist k), fun x hx => gk.2 x (List.dropLast_subset k hx)⟩, gk.2 _ (List.getLast_mem hne), ?_, ?_⟩
    · rw [way_len, hl]
      have e : pre a k.dropLast = pre a k := by rw [hd, pre_take]; omega
      rw [e]
      omega
    · unfold movedL
      rw [if_neg nc]
      exact ek
  · have e1 : pre a k = k.length := by omega
    have e2 : pre a k < a.length := by
      by_cases c2 : pre a k < a.length
      · exact c2
      · rw [if_neg c2] at h; omega
    rw [if_pos e2] at h
    have hn : n = 0 := by omega
    refine ⟨a, a[pre a k], ga, ga.2 _ (List.getElem_mem e2), by rw [way_self, hn]; rfl, ?_⟩
    rw [moved_at ga.1 (List.getElem?_eq_getElem e2), pre_same, e1, List.take_length]
theorem way_inj {a l l' : List Int} {c c' : Int} (ha : a.Nodup) (hl : l.Nodup) (hl' : l'.Nodup) (h : way a l ++ [c] = way a l' ++ [c']) : l = l' ∧ c = c' := by
  have h1 := List.append_inj' h rfl
  refine ⟨?_, by simpa using h1.2⟩
  rw [← play_way ha hl, ← play_way ha hl', h1.1]
theorem way_zero {a k : List Int} (ha : a.Nodup) (hk : k.Nodup) (h : (way a k).length = 0) : k = a := by
  have := play_way ha hk
  rw [List.eq_nil_of_length_eq_zero h] at this
  exact this.symm
theorem gd_len {cars r : List Int} (h : Gd cars r) : r.length ≤ cars.length := nodup_le h.1 h.2
theorem way_bound {cars a k : List Int} (gk : Gd cars k) : (way a k).length ≤ cars.length + 1 := by
  have := gd_len gk
  rw [way_len]
  split <;> omega
/-- when no lane is so far away, none is farther -/
theorem way_none {cars a : List Int} (ga : Gd cars a) {n : Nat} (h : ∀ k, Gd cars k → (way a k).length ≠ n) : ∀ m, ∀ k, Gd cars k → (way a k).length ≠ n + m := by
  intro m
  induction m with
  | zero => exact h
  | succ m ih =>
    intro k gk e
    obtain ⟨l, c, gl, hc, e2, _⟩ := way_parent ga gk (n := n + m) (by omega)
    exact ih l gl e2
end K33

set_option Elab.async false
set_option linter.all false
set_option maxRecDepth 100000
set_option autoImplicit false
set_option maxHeartbeats 8000000
namespace K33
open PySem PySem.Spec L2 DL PyProof.Rows
local macro_rules | `(tactic| walk_at "dl1") => `(tactic| ((first | (with_reducible apply r_seq) | (with_reducible apply r_asg) | ((with_reducible apply r_gn); try simp only [DSt.set, List.set_cons_succ, List.set_cons_zero, List.set_nil]) | ((with_reducible apply r_gtwo); try simp only [DSt.set, List.set_cons_succ, List.set_cons_zero, List.set_nil]) | ((with_reducible apply r_var); · exact rfl) | (with_reducible apply r_c) | (with_reducible apply r_op) | (with_reducible apply r_un) | (with_reducible apply r_test) | (with_reducible apply r_kTest) | (with_reducible apply r_and) | (with_reducible apply r_or) | (with_reducible apply r_not) | (with_reducible apply r_if) | (with_reducible apply r_andV) | (with_reducible apply r_orV) | (with_reducible apply r_notV) | (with_reducible apply r_chain) | (with_reducible apply r_nil) | (with_reducible apply r_cons) | (with_reducible apply r_tup) | ((with_reducible apply r_kTup); (· exact rfl); (· exact Nat.le_of_ble_eq_true rfl)) | ((with_reducible apply r_kLstC); (· exact Nat.le_of_ble_eq_true rfl)) | ((with_reducible apply r_kLst); (· exact rfl); (· exact Nat.le_of_ble_eq_true rfl)) | (with_reducible apply r_cb) | (with_reducible apply r_cmp) | (with_reducible apply r_add) | (with_reducible apply r_sub) | (with_reducible apply r_neg) | (with_reducible apply r_min) | ((with_reducible apply r_isN); · exact rfl) | ((with_reducible apply r_notN); · exact rfl) | ((with_reducible apply r_isi); · decide) | ((with_reducible apply r_len); (· exact rfl); (· exact rfl)) | (with_reducible apply r_call) | (with_reducible apply r_retI) | (with_reducible apply r_for) | (with_reducible apply r_dc) | (with_reducible apply r_iAny) | ((with_reducible apply r_kAny); · exact rfl) | (with_reducible apply r_iR1) | (with_reducible apply r_iR2) | (with_reducible apply r_iEn) | ((with_reducible apply r_kEn); · exact rfl) | (with_reducible apply r_drop) | (with_reducible apply r_retK) | (with_reducible apply r_kRet) | (with_reducible apply r_ifS) | (with_reducible apply r_next) | (with_reducible apply r_yes) | (with_reducible apply r_brk) | (with_reducible apply r_cont)) <;> try dsimp only))
local macro_rules | `(tactic| walk_at "dl") => `(tactic| (repeat walk_at "dl1"))
local macro_rules | `(tactic| walk_at "dlm") => `(tactic| ((first | walk_at "dl1" | ((first | (with_reducible apply r_bm) | (with_reducible apply r_bm0) | (with_reducible apply r_eqI) | (with_reducible apply r_neI) | (with_reducible apply r_eqS) | (with_reducible apply r_neS)) <;> try dsimp only))))
local macro_rules | `(tactic| walk_at "dx") => `(tactic| (repeat walk_at "dlm"))
local macro_rules | `(tactic| walk_at "dy1") => `(tactic| ((first | walk_at "dlm" | ((first | (with_reducible apply r_dput) | (with_reducible apply r_sl) | (with_reducible apply r_noPart) | (with_reducible apply r_part) | (with_reducible apply r_kPart) | (with_reducible apply r_rg1) | (with_reducible apply r_kRg1) | (with_reducible apply r_rg2) | (with_reducible apply r_kRg2) | (with_reducible apply r_rev) | (with_reducible apply r_lstRg) | (with_reducible apply r_tupRg) | (with_reducible apply r_newD) | (with_reducible apply r_par) | ((with_reducible apply r_kPar); try simp only [DSt.set, List.set_cons_succ, List.set_cons_zero, List.set_nil]) | (with_reducible apply r_parN) | ((with_reducible apply r_kParN); (· exact Nat.le_of_ble_eq_true rfl); (· exact rfl); (try simp only [DSt.set, DSt.new, List.set_cons_succ, List.set_cons_zero, List.set_nil, List.cons_append, List.nil_append, List.length_cons, List.length_nil, Nat.reduceAdd]))) <;> try dsimp only))))
local macro_rules | `(tactic| walk_at "dy") => `(tactic| (repeat walk_at "dy1"))
section
variable {P : Program} {w : World} {K : PySem.W.Frag}
theorem shaped_rows (rows : List (List Int)) : SeqAt.shaped (.list (rows.map T)) = true := by
  have h1 : ∀ ns : List Int, PyData.canLayAll0 (ns.map PyData.int) = true ∧ PyData.depthAll (ns.map PyData.int) = 0 := by
    intro ns
    induction ns with
    | nil => exact ⟨rfl, rfl⟩
    | cons n ns ih => exact ⟨by simp [PyData.canLayAll0, PyData.canLay0, ih.1], by simp [PyData.depthAll, PyData.depth, ih.2]⟩
  have h2 : ∀ rows : List (List Int), PyData.canLayAll0 (rows.map T) = true ∧ PyData.depthAll (rows.map T) ≤ 1 := by
    intro rows
    induction rows with
    | nil => exact ⟨rfl, Nat.zero_le _⟩
    | cons r rows ih =>
      obtain ⟨a, b⟩ := h1 r
      refine ⟨by simp [PyData.canLayAll0, PyData.canLay0, T, a, ih.1], ?_⟩
      simp only [List.map_cons, PyData.depthAll, T, PyData.depth, b]
      have := ih.2
      omega
  obtain ⟨a, b⟩ := h2 rows
  show (PyData.canLay0 (.list (rows.map T)) && decide ((PyData.list (rows.map T)).depth ≤ 64)) = true
  rw [Bool.and_eq_true]
  exact ⟨by simpa only [PyData.canLay0] using a, decide_eq_true (by simp only [PyData.depth]; omega)⟩
/-! ### _law_start_right -/
def wE (a k : List Int) : DV := .imm (.list [T (way a k)])
def ents (a : List Int) (ks : List (List Int)) : List (List Int × DV) := ks.map fun k => (k, wE a k)
theorem ents_keys (a : List Int) (ks : List (List Int)) : (ents a ks).map (·.1) = ks := by unfold ents; rw [List.map_map]; exact List.map_id ks
theorem r_neRows {ls : List (List Int)} {S : DSt} {R : DV → DSt → Prop} (q : R (dB (!decide (ls = []))) S) : gNeX (.imm (.list (ls.map T))) (.imm (.list [])) S R := by
  refine r_ne (fun _ z => nomatch z) (by rw [shaped_rows]; rfl) ?_
  rw [show PyData.eqv (.list (ls.map T)) (.list []) = decide (ls = []) by cases ls <;> simp [PyData.eqv, PyData.eqvAll]]
  exact q
theorem cell_of {ρ : List (Option DV)} {μ : List (Option DO)} {k : Nat} {o : DO} (h : μ[k]? = some (some o)) : DSt.cell ⟨ρ, μ⟩ k = some o := by
  unfold DSt.cell
  dsimp only
  rw [h]; rfl
theorem get_app {μ : List (Option DO)} {k : Nat} {o : Option DO} (h : μ[k]? = some o) (u : Option DO) : (μ ++ [u])[k]? = some o := by
  rw [List.getElem?_append_left (List.getElem?_eq_some_iff.mp h).1]; exact h
theorem valT_ents (a k : List Int) : ∀ ks : List (List Int), valT (ents a ks) k = if k ∈ ks then some (wE a k) else none
  | [] => rfl
  | x :: ks => by
    show valT ((x, wE a x) :: ents a ks) k = _
    rw [valT_cons, valT_ents a k ks]
    by_cases c : x = k
    · subst c; simp
    · have c' : ¬ k = x := fun e => c e.symm
      simp [c, c']
theorem putD_ents {a k : List Int} {ks : List (List Int)} (h : k ∉ ks) : putD (ents a ks) k (wE a k) = ents a (ks ++ [k]) := by
  unfold putD
  rw [valT_ents, if_neg h, if_neg (by decide)]
  unfold ents
  rw [List.map_append]
  rfl
/-- where the rounds stand -/
def Rnd (cars a : List Int) (n : Nat) (ks ls : List (List Int)) : Prop :=
  (∀ k, k ∈ ks ↔ Gd cars k ∧ (way a k).length ≤ n) ∧ (∀ k, k ∈ ls ↔ Gd cars k ∧ (way a k).length = n) ∧ ls.Nodup ∧ ls.length ≤ 4 ^ n ∧ ks.length ≤ 4 ^ (n + 1)
/-- the fresh ones, the first i lanes and the first j cars of the next done -/
def Frs (cars a : List Int) (ls : List (List Int)) (n i j : Nat) (fs : List (List Int)) : Prop :=
  (∀ k ∈ fs, ∃ (i' : Nat) (j' : Nat) (l : List Int) (c : Int), ls[i']? = some l ∧ cars[j']? = some c ∧ (i' < i ∨ (i' = i ∧ j' < j)) ∧ k = movedL l c ∧ way a k = way a l ++ [c]) ∧
  (∀ (i' j' : Nat) (l : List Int) (c : Int), ls[i']? = some l → cars[j']? = some c → (i' < i ∨ (i' = i ∧ j' < j)) → way a (movedL l c) = way a l ++ [c] → movedL l c ∈ fs) ∧ fs.Nodup ∧ fs.length ≤ i * 4 + j
theorem nodup_ix {A : Type} {xs : List A} (h : xs.Nodup) {i j : Nat} {x : A} (e1 : xs[i]? = some x) (e2 : xs[j]? = some x) : i = j := by
  have i1 := List.getElem?_eq_some_iff.mp e1
  have i2 := List.getElem?_eq_some_iff.mp e2
  exact (List.getElem_inj h).mp (i1.2.trans i2.2.symm)
theorem frs_skip {cars a : List Int} {ls fs : List (List Int)} {n i j : Nat} {l : List Int} {c : Int} (hl : ls[i]? = some l) (hc : cars[j]? = some c) (F : Frs cars a ls n i j fs) (h : way a (movedL l c) ≠ way a l ++ [c]) : Frs cars a ls n i (j + 1) fs := by
  obtain ⟨f1, f2, f3, f4⟩ := F
  refine ⟨fun k hk => ?_, fun i' j' l' c' e1 e2 z w' => ?_, f3, by omega⟩
  · obtain ⟨i', j', l', c', e1, e2, z, e3, e4⟩ := f1 k hk
    exact ⟨i', j', l', c', e1, e2, by omega, e3, e4⟩
  · by_cases hz : i' < i ∨ (i' = i ∧ j' < j)
    · exact f2 i' j' l' c' e1 e2 hz w'
    · obtain ⟨rfl, rfl⟩ : i' = i ∧ j' = j := by omega
      cases hl.symm.trans e1
      cases hc.symm.trans e2
      exact absurd w' h
theorem frs_new {cars a : List Int} {ls fs : List (List Int)} {n i j : Nat} {l : List Int} {c : Int} (ga : a.Nodup) (gl : ∀ l ∈ ls, l.Nodup) (nl : ls.Nodup) (nc : cars.Nodup) (hl : ls[i]? = some l) (hc : cars[j]? = some c) (F : Frs cars a ls n i j fs) (h : way a (movedL l c) = way a l ++ [c]) :
    movedL l c ∉ fs ∧ Frs cars a ls n i (j + 1) (fs ++ [movedL l c]) := by
  obtain ⟨f1, f2, f3, f4⟩ := F
  have hnot : movedL l c ∉ fs := fun hk => by
    obtain ⟨i', j', l', c', e1, e2, z, e3, e4⟩ := f1 _ hk
    obtain ⟨rfl, rfl⟩ := way_inj ga (gl l (List.mem_of_getElem? hl)) (gl l' (List.mem_of_getElem? e1)) (h.symm.trans e4)
    have := nodup_ix nl e1 hl
    have := nodup_ix nc e2 hc
    omega
  refine ⟨hnot, fun k hk => ?_, fun i' j' l' c' e1 e2 z w' => ?_, ?_, by rw [List.length_append, List.length_singleton]; omega⟩
  · rcases List.mem_append.mp hk with hk | hk
    · obtain ⟨i', j', l', c', e1, e2, z, e3, e4⟩ := f1 k hk
      exact ⟨i', j', l', c', e1, e2, by omega, e3, e4⟩
    · rw [List.mem_singleton.mp hk]
      exact ⟨i, j, l, c, hl, hc, by omega, rfl, h⟩
  · by_cases hz : i' < i ∨ (i' = i ∧ j' < j)
    · exact List.mem_append_left _ (f2 i' j' l' c' e1 e2 hz w')
    · obtain ⟨rfl, rfl⟩ : i' = i ∧ j' = j := by omega
      cases hl.symm.trans e1
      cases hc.symm.trans e2
      exact List.mem_append_right _ (List.mem_singleton.mpr rfl)
  · rw [List.nodup_append]
    exact ⟨f3, by simp, fun x hx y hy e => hnot (by rw [← List.mem_singleton.mp hy, ← e]; exact hx)⟩
theorem frs_row {cars a : List Int} {ls fs : List (List Int)} {n i : Nat} (hc : cars.length ≤ 4) (F : Frs cars a ls n i cars.length fs) : Frs cars a ls n (i + 1) 0 fs := by
  obtain ⟨f1, f2, f3, f4⟩ := F
  refine ⟨fun k hk => ?_, fun i' j' l' c' e1 e2 z w' => ?_, f3, by omega⟩
  · obtain ⟨i', j', l', c', e1, e2, z, e3, e4⟩ := f1 k hk
    exact ⟨i', j', l', c', e1, e2, by omega, e3, e4⟩
  · have := (List.getElem?_eq_some_iff.mp e2).1
    exact f2 i' j' l' c' e1 e2 (by omega) w'
theorem frs_end {cars a : List Int} {ls fs : List (List Int)} {n : Nat} (ga : Gd cars a) (hl : ∀ k, k ∈ ls ↔ Gd cars k ∧ (way a k).length = n) (F : Frs cars a ls n ls.length 0 fs) : ∀ k, k ∈ fs ↔ Gd cars k ∧ (way a k).length = n + 1 := by
  obtain ⟨f1, f2, f3, f4⟩ := F
  refine fun k => ⟨fun hk => ?_, fun ⟨gk, hk⟩ => ?_⟩
  · obtain ⟨i', j', l', c', e1, e2, z, e3, e4⟩ := f1 k hk
    have h1 := (hl l').mp (List.mem_of_getElem? e1)
    refine ⟨by rw [e3]; exact moved_gd h1.1 (List.mem_of_getElem? e2), ?_⟩
    rw [e4, List.length_append, h1.2]
    rfl
  · obtain ⟨l, c, gl, hc, h1, rfl⟩ := way_parent ga gk hk
    have hm := (hl l).mpr ⟨gl, h1⟩
    obtain ⟨i', hi', e1⟩ := List.mem_iff_getElem.mp hm
    obtain ⟨j', hj', e2⟩ := List.mem_iff_getElem.mp hc
    refine f2 i' j' l c (by rw [List.getElem?_eq_getElem hi', e1]) (by rw [List.getElem?_eq_getElem hj', e2]) (by omega) ?_
    rcases way_call ga.1 gl.1 c with z | z
    · omega
    · exact z
def sp__law_start_right : DSp := fun ds μ R => ∃ (a cars : List Int) (rows : List (List Int)), ds = [.imm (T a), .imm (L cars), .imm (.list (rows.map T))] ∧ μ = [] ∧ cars.length ≤ 4 ∧ cars.Nodup ∧ In60 cars ∧ Gd cars a ∧ (∀ r ∈ rows, Gd cars r) ∧ rows.length ≤ 1024 ∧ ∀ μ', R (dB true) μ'
theorem go__law_start_right : ∀ ds μ R, sp__law_start_right ds μ R → t__law_start_right P w K sp_route sp__law_played (ends R) ⟨ds.map some ++ List.replicate (11 - ds.length) none, μ⟩ := by
  rintro ds μ R ⟨a, cars, rows, rfl, rfl, hc, nc, c60, ga, gr, hr, h⟩
  have okG : ∀ {r : List Int}, Gd cars r → okL r := fun {r} g => ⟨by have := gd_len g; omega, fun x hx => c60 x (g.2 x hx), g.1⟩
  unfold t__law_start_right
  simp only [List.map_cons, List.map_nil, List.length_cons, List.length_nil, Nat.reduceAdd, Nat.reduceSub, List.replicate, List.cons_append, List.nil_append]
  walk_at "dy"
  refine r_dispT ?_
  walk_at "dy"
  refine r_lst ?_
  walk_at "dy"
  refine ⟨a, rfl, ?_⟩
  walk_at "dy"
  refine r_lst ?_
  walk_at "dy"
  refine r_while (fun m S => ∃ (n : Nat) (ks ls : List (List Int)) (z5 z6 z7 z8 z9 z10 : Option DV) (μ : List (Option DO)), m = 7 - n ∧ n ≤ 6 ∧ S = ⟨[some (.imm (T a)), some (.imm (L cars)), some (.imm (.list (rows.map T))), some (.cell 0), some (.imm (.list (ls.map T))), z5, z6, z7, z8, z9, z10], μ⟩ ∧ μ[0]? = some (some (.tdk (ents a ks))) ∧ Rnd cars a n ks ls) 7 ⟨0, [a], [a], none, none, none, none, none, none, _, rfl, by omega, rfl, ?_, ?_⟩ ?_
  · unfold ents wE
    simp only [List.map_cons, List.map_nil, way_self]
    rfl
  · refine ⟨fun k => ⟨fun hk => ?_, fun hk => ?_⟩, fun k => ⟨fun hk => ?_, fun hk => ?_⟩, by simp, by simp, by simp⟩
    · rw [List.mem_singleton.mp hk, way_self]; exact ⟨ga, Nat.le_refl _⟩
    · rw [way_zero ga.1 hk.1.1 (by omega)]; exact List.mem_singleton.mpr rfl
    · rw [List.mem_singleton.mp hk, way_self]; exact ⟨ga, rfl⟩
    · rw [way_zero ga.1 hk.1.1 hk.2]; exact List.mem_singleton.mpr rfl
  rintro m S1 ⟨n, ks, ls, z5, z6, z7, z8, z9, z10, μ, rfl, hn, rfl, m0, hk, hl, nl, ll, lk⟩
  walk_at "dy"
  refine r_lst ?_
  walk_at "dy"
  refine r_neRows ?_
  refine r_ite (fun e => ?_) (fun e => ?_)
  · have hne : ls ≠ [] := by simpa using e
    obtain ⟨l0, hl0⟩ : ∃ l0, l0 ∈ ls := by
      cases ls with
      | nil => exact absurd rfl hne
      | cons x r => exact ⟨x, List.mem_cons_self⟩
    have n5 : n ≤ 5 := by
      have g := (hl l0).mp hl0
      have := way_bound (a := a) g.1
      omega
    walk_at "dy"
    refine r_newT ?_
    walk_at "dy"
    refine ⟨fun i S => ∃ (fs : List (List Int)) (z6 z7 z8 z9 : Option DV), S = ⟨[some (.imm (T a)), some (.imm (L cars)), some (.imm (.list (rows.map T))), some (.cell 0), some (.imm (.list (ls.map T))), some (.cell μ.length), z6, z7, z8, z9, z10], μ ++ [some (.tdk (ents a fs))]⟩ ∧ Frs cars a ls n i 0 fs, ⟨[], _, _, _, _, rfl, (fun k hk => nomatch hk), (fun i' j' l c _ _ z => by omega), List.nodup_nil, Nat.zero_le _⟩, fun _ _ _ _ => True.intro, ?_, ?_⟩
    · rintro i y S2 hy ⟨fs, z6, z7, z8, z9, rfl, hfs⟩
      obtain ⟨l, hli, rfl⟩ : ∃ l, ls[i]? = some l ∧ y = .one (.imm (T l)) := by
        rw [List.map_map, List.map_map, List.getElem?_map] at hy
        obtain ⟨r, hr, e⟩ := Option.map_eq_some_iff.mp hy
        exact ⟨r, hr, e.symm⟩
      walk_at "dy"
      have gl := (hl l).mp (List.mem_of_getElem? hli)
      have ll4 := gd_len gl.1
      refine ⟨fun j S => ∃ (fs : List (List Int)) (z7 z8 z9 : Option DV), S = ⟨[some (.imm (T a)), some (.imm (L cars)), some (.imm (.list (rows.map T))), some (.cell 0), some (.imm (.list (ls.map T))), some (.cell μ.length), some (.imm (T l)), z7, z8, z9, z10], μ ++ [some (.tdk (ents a fs))]⟩ ∧ Frs cars a ls n i j fs, ⟨fs, _, _, _, rfl, hfs⟩, fun _ _ _ _ => True.intro, ?_, ?_⟩
      · rintro j y S2 hy ⟨fs, z7, z8, z9, rfl, hfs⟩
        obtain ⟨c, hcj, rfl⟩ := ys_get hy
        have hcm := List.mem_of_getElem? hcj
        walk_at "dy"
        refine r_callI rfl ⟨l, [c], rfl, rfl, by omega, by simp, fun μ' => ?_⟩
        rw [show play l [c] = movedL l c from rfl]
        walk_at "dy"
        refine r_ninT (k := movedL l c) (cell_of (get_app m0 _)) ?_
        rw [valT_ents]
        have hb : (!(if movedL l c ∈ ks then some (wE a (movedL l c)) else none).isSome) = !decide (movedL l c ∈ ks) := by
          by_cases hks : movedL l c ∈ ks
          · simp [hks]
          · simp [hks]
        rw [hb]
        refine r_ite (fun e => ?_) (fun e => ?_)
        rotate_left
        · have hks : movedL l c ∈ ks := by simpa using e
          walk_at "dy"
          refine ⟨fs, _, _, _, rfl, frs_skip hli hcj hfs fun e => ?_⟩
          have := (hk _).mp hks
          have e2 := congrArg List.length e
          rw [List.length_append, List.length_singleton, gl.2] at e2
          omega
        · have hks : movedL l c ∉ ks := by simpa using e
          have hw : way a (movedL l c) = way a l ++ [c] := by
            rcases way_call ga.1 gl.1.1 c with z | z
            · exact absurd ((hk _).mpr ⟨moved_gd gl.1 hcm, by omega⟩) hks
            · exact z
          obtain ⟨hnf, hfs2⟩ := frs_new ga.1 (fun q hq => ((hl q).mp hq).1.1) nl nc hli hcj hfs hw
          walk_at "dy"
          refine r_putT ?_
          walk_at "dy"
          refine r_getT ?_
          walk_at "dy"
          refine r_kGetT (es := ents a fs) (cell_of (by simp)) ?_
          walk_at "dy"
          refine r_lst ?_
          walk_at "dy"
          refine ⟨ents a fs, movedL l c, cell_of (by simp), rfl, ?_⟩
          rw [valT_ents, if_neg hnf]
          dsimp only [Option.getD_none]
          refine r_lc ?_
          walk_at "dy"
          have hw1 : wE a (movedL l c) = .imm (.list [T (way a l ++ [c])]) := by unfold wE; rw [hw]
          have hlw : (way a l).length ≤ 5 := by have := way_bound (a := a) gl.1; omega
          refine r_atT (k := l) (cell_of (get_app m0 _)) (d := wE a l) (by rw [valT_ents, if_pos ((hk l).mpr ⟨gl.1, by omega⟩)]) ?_
          walk_at "dy"
          refine lc_run (fun _ => True.intro) (by simp [sizeLine_eq]) (fun _ => true) (fun _ => T (way a l ++ [c])) ?_ ?_
          · intro y hy N hN
            rw [show List.map DY.one (List.map DV.imm [T (way a l)]) = [DY.one (.imm (T (way a l)))] from rfl, List.mem_singleton] at hy
            subst hy
            walk_at "dy"
            rw [if_pos rfl] at hN
            rw [if_pos rfl]
            walk_at "dy"
            refine r_addT (by simp [sizeLine_eq]; omega) ?_
            rw [show List.map PyData.int (way a l) ++ [PyData.int c] = (way a l ++ [c]).map PyData.int by rw [List.map_append]; rfl]
            exact hN
          rw [show List.map (fun _ => T (way a l ++ [c])) (List.filter (fun _ => true) (List.map DY.one (List.map DV.imm [T (way a l)]))) = [T (way a l ++ [c])] from rfl]
          refine r_addLI (by simp [sizeLine_eq]) ?_
          rw [List.nil_append, ← hw1]
          walk_at "dy"
          have lf := hfs.2.2.2
          have li := (List.getElem?_eq_some_iff.mp hli).1
          have lj := (List.getElem?_eq_some_iff.mp hcj).1
          have h4 : (4 : Nat) ^ n ≤ 4 ^ 5 := Nat.pow_le_pow_right (by decide) n5
          refine ⟨_, ents a fs, movedL l c, rfl, cell_of (by simp), rfl, by unfold ents; rw [List.length_map, sizeLine_eq]; omega, fs ++ [movedL l c], some (dI c), some (.imm (T (movedL l c))), z9, ?_, hfs2⟩
          rw [putD_ents hnf]
          show (⟨_, (μ ++ [_]).set μ.length _⟩ : DSt) = _
          rw [List.set_append_right _ _ (Nat.le_refl _), Nat.sub_self]
          rfl
      · rintro S2 ⟨fs, z7, z8, z9, rfl, hfs⟩
        rw [List.length_map, List.length_map, List.length_map] at hfs
        exact ⟨fs, _, _, _, _, rfl, frs_row hc hfs⟩
    · rintro S2 ⟨fs, z6, z7, z8, z9, rfl, hfs⟩
      rw [List.length_map, List.length_map, List.length_map] at hfs
      have hfe := frs_end ga hl hfs
      have lf := hfs.2.2.2
      have h4 : (4 : Nat) ^ n ≤ 4 ^ 5 := Nat.pow_le_pow_right (by decide) n5
      have h5 : (4 : Nat) ^ (n + 1) = 4 * 4 ^ n := by rw [Nat.pow_succ, Nat.mul_comm]
      have h6 : (4 : Nat) ^ (n + 1 + 1) = 4 * 4 ^ (n + 1) := by rw [Nat.pow_succ, Nat.mul_comm]
      have m1 := (List.getElem?_eq_some_iff.mp m0).1
      walk_at "dy"
      refine r_sortedT (es := ents a fs) (cell_of (by simp)) fun ls' hp => ?_
      rw [ents_keys] at hp
      rw [show ls'.map encT = ls'.map T from rfl]
      have nl' : ls'.Nodup := hp.nodup_iff.mpr hfs.2.2.1
      have hl' : ∀ k, k ∈ ls' ↔ Gd cars k ∧ (way a k).length = n + 1 := fun k => hp.mem_iff.trans (hfe k)
      have ll' := hp.length_eq
      walk_at "dy"
      refine ⟨fun i S => ∃ (z6 : Option DV) (μ' : List (Option DO)), S = ⟨[some (.imm (T a)), some (.imm (L cars)), some (.imm (.list (rows.map T))), some (.cell 0), some (.imm (.list (ls'.map T))), some (.cell μ.length), z6, z7, z8, z9, z10], μ'⟩ ∧ μ'[0]? = some (some (.tdk (ents a (ks ++ ls'.take i)))) ∧ μ'[μ.length]? = some (some (.tdk (ents a fs))), ⟨_, _, rfl, by rw [List.take_zero, List.append_nil]; exact get_app m0 _, by simp⟩, fun _ _ _ _ => True.intro, ?_, ?_⟩
      · rintro i y S2 hy ⟨z6, μ', rfl, g0, g1⟩
        obtain ⟨k, hki, rfl⟩ : ∃ k, ls'[i]? = some k ∧ y = .one (.imm (T k)) := by
          rw [List.map_map, List.map_map, List.getElem?_map] at hy
          obtain ⟨r, hr, e⟩ := Option.map_eq_some_iff.mp hy
          exact ⟨r, hr, e.symm⟩
        have hk' := List.mem_of_getElem? hki
        have hgk := (hl' k).mp hk'
        have hnot : k ∉ ks ++ ls'.take i := fun z => by
          rcases List.mem_append.mp z with z | z
          · have := ((hk k).mp z).2
            omega
          · obtain ⟨j, hj, e⟩ := List.mem_iff_getElem.mp z
            have hj2 : j < i := by rw [List.length_take] at hj; omega
            rw [List.getElem_take] at e
            have := nodup_ix nl' (List.getElem?_eq_some_iff.mpr ⟨_, e⟩) hki
            omega
        walk_at "dy"
        refine r_putT ?_
        walk_at "dy"
        refine r_atT (k := k) (cell_of g1) (d := wE a k) (by rw [valT_ents, if_pos ((hfe k).mpr hgk)]) ?_
        walk_at "dy"
        have g0l := (List.getElem?_eq_some_iff.mp g0).1
        refine ⟨0, ents a (ks ++ ls'.take i), k, rfl, cell_of g0, rfl, by unfold ents; rw [List.length_map, List.length_append, List.length_take, sizeLine_eq]; omega, some (.imm (T k)), μ'.set 0 (some (.tdk (ents a (ks ++ ls'.take (i + 1))))), ?_, by rw [List.getElem?_set_self g0l], by rw [List.getElem?_set_ne (by omega)]; exact g1⟩
        rw [putD_ents hnot, show ks ++ ls'.take (i + 1) = ks ++ ls'.take i ++ [k] by rw [take_next hki, List.append_assoc]]
        rfl
      · rintro S2 ⟨z6, μ', rfl, g0, g1⟩
        rw [List.length_map, List.length_map, List.length_map, List.take_length] at g0
        refine ⟨7 - (n + 1), by omega, n + 1, ks ++ ls', ls', some (.cell μ.length), z6, z7, z8, z9, z10, μ', rfl, by omega, rfl, g0, fun k => ⟨fun z => ?_, fun z => ?_⟩, hl', nl', by omega, by rw [List.length_append]; omega⟩
        · rcases List.mem_append.mp z with z | z
          · exact ⟨((hk k).mp z).1, by have := ((hk k).mp z).2; omega⟩
          · exact ⟨((hl' k).mp z).1, by have := ((hl' k).mp z).2; omega⟩
        · by_cases c : (way a k).length ≤ n
          · exact List.mem_append_left _ ((hk k).mpr ⟨z.1, c⟩)
          · exact List.mem_append_right _ ((hl' k).mpr ⟨z.1, by omega⟩)
  · have e : ls = [] := by simpa using e
    subst e
    have far : ∀ k, Gd cars k → k ∈ ks := fun k gk => by
      refine (hk k).mpr ⟨gk, ?_⟩
      by_cases c : (way a k).length ≤ n
      · exact c
      · exfalso
        have := way_none ga (n := n) (fun q gq e => by have := (hl q).mpr ⟨gq, e⟩; cases this) ((way a k).length - n) k gk
        omega
    walk_at "dy"
    refine ⟨fun i S => ∃ z10, S = ⟨[some (.imm (T a)), some (.imm (L cars)), some (.imm (.list (rows.map T))), some (.cell 0), some (.imm (.list (List.map T []))), z5, z6, z7, z8, z9, z10], μ⟩, ⟨_, rfl⟩, fun _ _ _ _ => True.intro, ?_, ?_⟩
    · rintro i y S2 hy ⟨z10, rfl⟩
      obtain ⟨r, hri, rfl⟩ : ∃ r, rows[i]? = some r ∧ y = .one (.imm (T r)) := by
        rw [List.map_map, List.map_map, List.getElem?_map] at hy
        obtain ⟨r, hr, e⟩ := Option.map_eq_some_iff.mp hy
        exact ⟨r, hr, e.symm⟩
      have gk := gr r (List.mem_of_getElem? hri)
      have w60 := way_60 (okG ga) (okG gk)
      have can := can_L1 (a := way a r) (by omega) (fun x hx => by have := w60.1 x hx; omega)
      obtain ⟨sh, hsh⟩ : ∃ s, (PyData.list [T (way a r)]).shown = s := ⟨_, rfl⟩
      walk_at "dy"
      refine r_lst ?_
      walk_at "dy"
      refine r_callI rfl ⟨a, r, rfl, rfl, okG ga, okG gk, fun μ' => ?_⟩
      walk_at "dy"
      refine r_repr can ?_
      rw [hsh]
      walk_at "dy"
      refine r_atT (k := r) (cell_of m0) (d := wE a r) (by rw [valT_ents, if_pos (far r gk)]) ?_
      walk_at "dy"
      refine r_repr can ?_
      rw [hsh]
      walk_at "dy"
      refine r_iteF (by simp) ?_
      walk_at "dy"
      exact ⟨_, rfl⟩
    · rintro S2 ⟨z10, rfl⟩
      walk_at "dy"
      exact h _
end
end K33

set_option Elab.async false
set_option linter.all false
set_option maxRecDepth 100000
set_option autoImplicit false
set_option maxHeartbeats 8000000
namespace K33
open PySem PySem.Spec L2 DL PyProof.Rows
local macro_rules | `(tactic| walk_at "dl1") => `(tactic| ((first | (with_reducible apply r_seq) | (with_reducible apply r_asg) | ((with_reducible apply r_gn); try simp only [DSt.set, List.set_cons_succ, List.set_cons_zero, List.set_nil]) | ((with_reducible apply r_gtwo); try simp only [DSt.set, List.set_cons_succ, List.set_cons_zero, List.set_nil]) | ((with_reducible apply r_var); · exact rfl) | (with_reducible apply r_c) | (with_reducible apply r_op) | (with_reducible apply r_un) | (with_reducible apply r_test) | (with_reducible apply r_kTest) | (with_reducible apply r_and) | (with_reducible apply r_or) | (with_reducible apply r_not) | (with_reducible apply r_if) | (with_reducible apply r_andV) | (with_reducible apply r_orV) | (with_reducible apply r_notV) | (with_reducible apply r_chain) | (with_reducible apply r_nil) | (with_reducible apply r_cons) | (with_reducible apply r_tup) | ((with_reducible apply r_kTup); (· exact rfl); (· exact Nat.le_of_ble_eq_true rfl)) | ((with_reducible apply r_kLstC); (· exact Nat.le_of_ble_eq_true rfl)) | ((with_reducible apply r_kLst); (· exact rfl); (· exact Nat.le_of_ble_eq_true rfl)) | (with_reducible apply r_cb) | (with_reducible apply r_cmp) | (with_reducible apply r_add) | (with_reducible apply r_sub) | (with_reducible apply r_neg) | (with_reducible apply r_min) | ((with_reducible apply r_isN); · exact rfl) | ((with_reducible apply r_notN); · exact rfl) | ((with_reducible apply r_isi); · decide) | ((with_reducible apply r_len); (· exact rfl); (· exact rfl)) | (with_reducible apply r_call) | (with_reducible apply r_retI) | (with_reducible apply r_for) | (with_reducible apply r_dc) | (with_reducible apply r_iAny) | ((with_reducible apply r_kAny); · exact rfl) | (with_reducible apply r_iR1) | (with_reducible apply r_iR2) | (with_reducible apply r_iEn) | ((with_reducible apply r_kEn); · exact rfl) | (with_reducible apply r_drop) | (with_reducible apply r_retK) | (with_reducible apply r_kRet) | (with_reducible apply r_ifS) | (with_reducible apply r_next) | (with_reducible apply r_yes) | (with_reducible apply r_brk) | (with_reducible apply r_cont)) <;> try dsimp only))
local macro_rules | `(tactic| walk_at "dl") => `(tactic| (repeat walk_at "dl1"))
local macro_rules | `(tactic| walk_at "dlm") => `(tactic| ((first | walk_at "dl1" | ((first | (with_reducible apply r_bm) | (with_reducible apply r_bm0) | (with_reducible apply r_eqI) | (with_reducible apply r_neI) | (with_reducible apply r_eqS) | (with_reducible apply r_neS)) <;> try dsimp only))))
local macro_rules | `(tactic| walk_at "dx") => `(tactic| (repeat walk_at "dlm"))
local macro_rules | `(tactic| walk_at "dy1") => `(tactic| ((first | walk_at "dlm" | ((first | (with_reducible apply r_dput) | (with_reducible apply r_sl) | (with_reducible apply r_noPart) | (with_reducible apply r_part) | (with_reducible apply r_kPart) | (with_reducible apply r_rg1) | (with_reducible apply r_kRg1) | (with_reducible apply r_rg2) | (with_reducible apply r_kRg2) | (with_reducible apply r_rev) | (with_reducible apply r_lstRg) | (with_reducible apply r_tupRg) | (with_reducible apply r_newD) | (with_reducible apply r_par) | ((with_reducible apply r_kPar); try simp only [DSt.set, List.set_cons_succ, List.set_cons_zero, List.set_nil]) | (with_reducible apply r_parN) | ((with_reducible apply r_kParN); (· exact Nat.le_of_ble_eq_true rfl); (· exact rfl); (try simp only [DSt.set, DSt.new, List.set_cons_succ, List.set_cons_zero, List.set_nil, List.cons_append, List.nil_append, List.length_cons, List.length_nil, Nat.reduceAdd]))) <;> try dsimp only))))
local macro_rules | `(tactic| walk_at "dy") => `(tactic| (repeat walk_at "dy1"))
section
variable {P : Program} {w : World} {K : PySem.W.Frag}
/-! ### the law -/
theorem call_bowl_k {S : DSt} {R : DV → DSt → Prop} {ns : List Int} {k : Int} (k0 : 0 ≤ k) (k1 : k ≤ 100) (q : ∀ x0 x1 x2, Sh 0 x0 x1 x2 → R (.cell S.μ.length) ⟨S.ρ, S.μ ++ [some (shD x0 x1 x2)]⟩) : ∃ ks, kCall sp__law_bowl R ([.scr ns, dI k] ++ []) S ks := by
  refine r_callI rfl ⟨ns, _, rfl, rfl, k0, k1, fun x0 x1 x2 μ' sh hm => ?_⟩
  exact r_retN (o := shD x0 x1 x2) rfl hm (q x0 x1 x2 sh)
theorem call_pair {S : DSt} {R : DV → DSt → Prop} {k : Nat} {x0 x1 x2 c : Int} (hk : S.μ[k]? = some (some (shD x0 x1 x2))) (sh : Sh c x0 x1 x2) (hc : c ≤ 10 ^ 7)
    (q : ∀ a b y0 y1 y2, okL a → okL b → Sh (c + 200) y0 y1 y2 → R (.imm (.tuple [T a, T b])) ⟨S.ρ, S.μ.set k (some (shD y0 y1 y2))⟩) : ∃ ks, kCall sp__law_pair R ([.cell k] ++ []) S ks := by
  have hkl := (List.getElem?_eq_some_iff.mp hk).1
  refine r_callC (k := k) (o := shD x0 x1 x2) (es' := [.cell 0]) hkl (by simp [renDs, renD]) ?_ ?_
  · show (match S.μ[k]? with | some (some o) => if o.bare = true then some o else none | _ => none) :: cellsOf S.μ [] = _
    rw [hk]; rfl
  · exact ⟨x0, x1, x2, c, rfl, rfl, sh, hc, fun a b y0 y1 y2 μ' oa ob s hm => r_retC (o := shD y0 y1 y2) rfl hm (q a b y0 y1 y2 oa ob s)⟩
theorem rgD_T (a b : Int) : PyData.tuple (rgD a b) = T (rgI a b) := by
  unfold rgD rgI T
  rw [List.map_map]
  rfl
theorem r_intB {b : Bool} {S : DSt} {R : DV → DSt → Prop} (q : R (dI (if b = true then 1 else 0)) S) : gInt [dB b] S R := q
theorem okL_rg {n : Int} (h0 : 0 ≤ n) (h : n ≤ 60) : okL (rgI 0 n) := okL_of (fun x hx => by have := rgI_mem hx; omega) (nodup_rgI 0 n)
def t_tail (P : Program) (w : World) (K : PySem.W.Frag) (sp_route : DSp) (sp__law_pair_right : DSp) (sp__law_pair : DSp) (sp__law_bowl : DSp) (sp__law_start_right : DSp) (sp__law_all_lanes : DSp) : DTS :=
    (dSeq (dAsg (dCallX sp__law_all_lanes [] (dCons (dVar 1) dNil)) (dgName 2))
    (dSeq (dIfS (dTest (dOp gNeX (dLcX (diAny (dVar 2)) (dgName 3) (dNot (dTest (dCallX sp__law_start_right [] (dCons (dVar 3) (dCons (dVar 1) (dCons (dVar 2) dNil)))))) (dVar 3) [3]) (dLstX dNil))) (dRetW P w K (dC (dB false))) dNext)
    (dSeq (dFor (diRange1 (dCons (dCB (gII2 fun i j => if j > i then j else i) (dCons (dC (dI 1)) (dCons (dCB (gII2 fun i j => if j < i then j else i) (dCons (dC (dI 6)) (dCons (dCB gLenA (dCons (dVar 0) dNil)) dNil))) dNil))) dNil)) (dgName 4)
    (dSeq (dAsg (dCallX sp__law_bowl [] (dCons (dVar 0) (dCons (dVar 4) dNil))) (dgName 5))
    (dFor (diRange1 (dCons (dC (dI 6)) dNil)) (dgName 6)
    (dSeq (dAsg (dCallX sp__law_pair [] (dCons (dVar 5) dNil)) (dgTwo 7 8))
    (dIfS (dOr (dNot (dTest (dCallX sp__law_pair_right [] (dCons (dVar 7) (dCons (dVar 8) dNil))))) (dNot (dTest (dCallX sp__law_pair_right [] (dCons (dVar 8) (dCons (dVar 8) dNil)))))) (dRetW P w K (dC (dB false))) dNext)))))
    (dSeq (dAsg (dTupRg (dRg1 (dC (dI 60)))) (dgName 9))
    (dRetW P w K (dAndV (dOp gEqX (dCallX sp_route [] (dCons (dVar 9) (dCons (dRevT (dVar 9)) dNil))) (dOp (gOr gAdd gAddC) (dTup (dCons (dC (dI 0)) dNil)) (dRevT (dVar 9)))) (dAndV (dOp gEqX (dCallX sp_route [] (dCons (dTup dNil) (dCons (dVar 9) dNil))) (dVar 9)) (dOp gEqX (dCallX sp_route [] (dCons (dVar 9) (dCons (dTup dNil) dNil))) (dTup (dCons (dC (dI 0)) dNil))))))))))
theorem go_tail {ns0 : List Int} {n : Int} {R : DV → List (Option DO) → Prop} (h : ∀ μ', R (dB true) μ') (n3 : 3 ≤ n) (n4 : n ≤ 4) : t_tail P w K sp_route sp__law_pair_right sp__law_pair sp__law_bowl sp__law_start_right sp__law_all_lanes (ends R) ⟨[some (.scr ns0), some (.imm (L (rgI 0 n))), none, none, none, none, none, none, none, none], []⟩ := by
  unfold t_tail
  have lc : (rgI 0 n).length ≤ 4 := by rw [rgI_len]; omega
  have oc := okL_rg (n := n) (by omega) (by omega)
  walk_at "dy"
  refine r_callI rfl ⟨rgI 0 n, rfl, rfl, lc, fun rows μ' hg hl => ?_⟩
  walk_at "dy"
  refine r_lc ?_
  walk_at "dy"
  refine lc_run (fun _ => True.intro) (by simp [sizeLine_eq]; omega) (fun _ => false) (fun _ => .none) ?_ ?_
  · intro y hy N hN
    obtain ⟨d, hd, rfl⟩ := List.mem_map.mp hy
    obtain ⟨q, hq, rfl⟩ := List.mem_map.mp hd
    obtain ⟨r, hr, rfl⟩ := List.mem_map.mp hq
    walk_at "dy"
    refine r_callI rfl ⟨r, rgI 0 n, rows, rfl, rfl, lc, nodup_rgI 0 n, oc.2.1, hg r hr, hg, hl, fun μ' => ?_⟩
    walk_at "dy"
    rw [if_neg (by decide)]
    simpa using hN
  rw [show List.map (fun _ => PyData.none) (List.filter (fun _ => false) (List.map DY.one (List.map DV.imm (List.map T rows)))) = [] by simp]
  refine r_lst ?_
  walk_at "dy"
  refine r_neRows (ls := []) ?_
  walk_at "dy"
  rw [if_neg (by decide)]
  walk_at "dy"
  have hb : ∀ L : Int, ∃ mx, (if (if L < 6 then L else 6) > 1 then (if L < 6 then L else 6) else 1) = mx ∧ 1 ≤ mx ∧ mx ≤ 6 := fun L => ⟨_, rfl, by split <;> (try split) <;> omega, by split <;> (try split) <;> omega⟩
  obtain ⟨mx, e, m1, m4⟩ := hb ((List.map (fun n => DV.imm (PyData.int n)) ns0).length : Int)
  rw [e]
  refine r_kR1 (by omega) ?_
  refine ⟨fun i S => ∃ z1 z2 z3 z4 z5 z6 z7 z8 z9 μ, S = ⟨[some (.scr ns0), z1, z2, z3, z4, z5, z6, z7, z8, z9], μ⟩, ⟨_, _, _, _, _, _, _, _, _, _, rfl⟩, fun _ _ _ _ => True.intro, ?_, ?_⟩
  · rintro i y S2 hy ⟨z1, z2, z3, z4, z5, z6, z7, z8, z9, μ, rfl⟩
    obtain ⟨hi, rfl⟩ := range_get hy
    have sl : ∀ o o' : Option DO, (μ ++ [o]).set μ.length o' = μ ++ [o'] := fun o o' => by simp
    have at1 : ∀ o : DO, (μ ++ [some o])[μ.length]? = some (some o) := fun o => by simp
    walk_at "dy"
    refine call_bowl_k (by omega) (by omega) fun x0 x1 x2 sh => ?_
    walk_at "dy"
    refine r_kR1 (by omega) ?_
    refine ⟨fun j S => ∃ z6 z7 z8 z9 x0 x1 x2, S = ⟨[some (.scr ns0), z1, z2, z3, some (dI (0 + (i : Int))), some (.cell μ.length), z6, z7, z8, z9], μ ++ [some (shD x0 x1 x2)]⟩ ∧ Sh (200 * j) x0 x1 x2, ⟨_, _, _, _, _, _, _, rfl, by simpa using sh⟩, fun _ _ _ _ => True.intro, ?_, ?_⟩
    · rintro j y S2 hy ⟨z6, z7, z8, z9, x0, x1, x2, rfl, shj⟩
      obtain ⟨hj, rfl⟩ := range_get hy
      have hj6 : j < 6 := by simpa using hj
      walk_at "dy"
      refine call_pair (at1 _) shj (by omega) fun a b y0 y1 y2 oa ob sh1 => ?_
      rw [sl]
      walk_at "dy"
      refine r_gtwoT ?_
      try simp only [DSt.set, List.set_cons_succ, List.set_cons_zero]
      walk_at "dy"
      refine r_callI rfl ⟨a, b, rfl, rfl, oa, ob, fun μ' => ?_⟩
      walk_at "dy"
      rw [if_neg (by decide)]
      refine r_callI rfl ⟨b, b, rfl, rfl, ob, ob, fun μ' => ?_⟩
      walk_at "dy"
      rw [if_neg (by decide)]
      walk_at "dy"
      exact ⟨_, _, _, _, y0, y1, y2, rfl, sh1.mono (by omega)⟩
    · rintro S2 ⟨z6, z7, z8, z9, x0, x1, x2, rfl, shj⟩
      exact ⟨_, _, _, _, _, _, _, _, _, _, rfl⟩
  · rintro S2 ⟨z1, z2, z3, z4, z5, z6, z7, z8, z9, μ, rfl⟩
    walk_at "dy"
    refine r_kTupRg ⟨by omega, by omega, by omega, by omega⟩ ?_
    rw [rgD_T]
    have ow := okL_rg (n := 60) (by omega) (by omega)
    have orv := rev_okL ow
    have f1 : way (rgI 0 60) (rgI 0 60).reverse = 0 :: (rgI 0 60).reverse := by decide +kernel
    have f2 : way [] (rgI 0 60) = rgI 0 60 := by decide +kernel
    have f3 : way (rgI 0 60) [] = [0] := by decide +kernel
    have o0 : okL [] := okL_of (fun x hx => nomatch hx) List.nodup_nil
    have lw : (rgI 0 60).length = 60 := by rw [rgI_len]; rfl
    generalize rgI 0 60 = wh at ow orv f1 f2 f3 lw ⊢
    walk_at "dy"
    refine r_revT ?_
    walk_at "dy"
    refine r_kRevT ?_
    rw [← List.map_reverse]
    walk_at "dy"
    refine r_callI rfl ⟨wh, wh.reverse, rfl, rfl, ow, orv, fun μ' => ?_⟩
    rw [f1]
    walk_at "dy"
    refine r_revT ?_
    walk_at "dy"
    refine r_kRevT ?_
    rw [← List.map_reverse]
    refine r_addT (by simp [sizeLine_eq]; omega) ?_
    walk_at "dy"
    refine r_eqT (a := 0 :: wh.reverse) (b := 0 :: wh.reverse) ?_
    rw [decide_eq_true rfl]
    walk_at "dy"
    rw [if_pos rfl]
    walk_at "dy"
    refine r_callI rfl ⟨[], wh, rfl, rfl, o0, ow, fun μ' => ?_⟩
    rw [f2]
    walk_at "dy"
    refine r_eqT (a := wh) (b := wh) ?_
    rw [decide_eq_true rfl]
    walk_at "dy"
    rw [if_pos rfl]
    walk_at "dy"
    refine r_callI rfl ⟨wh, [], rfl, rfl, ow, o0, fun μ' => ?_⟩
    rw [f3]
    walk_at "dy"
    refine r_eqT (a := [0]) (b := [0]) ?_
    rw [decide_eq_true rfl]
    walk_at "dy"
    exact h _
def sp_law : DSp := fun ds μ R => ∃ ns, ds = [.scr ns] ∧ μ = [] ∧ ∀ μ', R (dB true) μ'
theorem go_law : ∀ ds μ R, sp_law ds μ R → t_law P w K sp_route sp__law_pair_right sp__law_pair sp__law_bowl sp__law_start_right sp__law_all_lanes (ends R) ⟨ds.map some ++ List.replicate (10 - ds.length) none, μ⟩ := by
  rintro ds μ R ⟨ns0, rfl, rfl, h⟩
  unfold t_law
  simp only [List.map_cons, List.map_nil, List.length_cons, List.length_nil, Nat.reduceAdd, Nat.reduceSub, List.replicate, List.cons_append, List.nil_append]
  walk_at "dy"
  refine r_lst ?_
  walk_at "dy"
  refine r_neScr ?_
  have close : ∀ z : Int, (z = 0 ∨ z = 1) → t_tail P w K sp_route sp__law_pair_right sp__law_pair sp__law_bowl sp__law_start_right sp__law_all_lanes (ends R) ⟨[some (.scr ns0), some (.imm (L (rgI 0 (3 + z)))), none, none, none, none, none, none, none, none], []⟩ := fun z hz => go_tail h (by omega) (by omega)
  refine r_ite (fun e => ?_) (fun e => ?_)
  · have e : ns0 ≠ [] := by simpa using e
    obtain ⟨x, xs, rfl⟩ : ∃ x xs, ns0 = x :: xs := by
      cases ns0 with
      | nil => exact absurd rfl e
      | cons x xs => exact ⟨x, xs, rfl⟩
    walk_at "dy"
    refine r_at rfl rfl (e := dI x) (L2.atI_nat (j := 0) rfl) ?_
    walk_at "dy"
    refine r_mod (by omega) ?_
    walk_at "dy"
    refine r_intB ?_
    walk_at "dy"
    refine r_kLstRg ⟨by omega, by omega, by split <;> omega, by split <;> omega⟩ ?_
    rw [rgD_L]
    walk_at "dy"
    exact close _ (by split <;> simp)
  · walk_at "dy"
    refine r_intB ?_
    walk_at "dy"
    refine r_kLstRg ⟨by omega, by omega, by split <;> omega, by split <;> omega⟩ ?_
    rw [rgD_L]
    walk_at "dy"
    exact close _ (by split <;> simp)
end
end K33

set_option Elab.async false
set_option linter.all false
set_option maxRecDepth 100000
namespace K33
open PySem PySem.Spec L2 DL PyProof.Rows
/-! ## the defs, one behind the other -/
theorem all_ok {P : Program} {w : World} {K : PySem.W.Frag} {mg : Str → Option Value} {base : Heap} (G : Top K mg) : DFn P w K mg base 8 G.f_law G.fd_law ["script"] sp_law := by
  have h1 : DFn P w K mg base _ _ _ _ sp_route_in := ok_route_in G (fun _ _ _ ⟨_, _, e, _⟩ => by rw [e]; rfl) go_route_in
  have h2 : DFn P w K mg base _ _ _ _ sp_is_int := ok_is_int G (fun _ _ _ ⟨_, e, _⟩ => by rw [e]; rfl) go_is_int
  have h3 : DFn P w K mg base _ _ _ _ sp_in_range := ok_in_range G h2 (fun _ _ _ ⟨_, _, _, e, _⟩ => by rw [e]; rfl) go_in_range
  have h4 : DFn P w K mg base _ _ _ _ sp_is_car := ok_is_car G h3 (fun _ _ _ ⟨_, e, _⟩ => by rw [e]; rfl) go_is_car
  have h5 : DFn P w K mg base _ _ _ _ sp_is_lane := ok_is_lane G h4 (fun _ _ _ ⟨_, e, _⟩ => by rw [e]; rfl) go_is_lane
  have h6 : DFn P w K mg base _ _ _ _ sp_require_lane := ok_require_lane G h5 (fun _ _ _ ⟨_, e, _⟩ => by rw [e]; rfl) go_require_lane
  have h7 : DFn P w K mg base _ _ _ _ sp_route := ok_route G h1 h6 (fun _ _ _ ⟨_, _, e, _⟩ => by rw [e]; rfl) go_route
  have h8 : DFn P w K mg base _ _ _ _ sp__law_played := ok__law_played G (fun _ _ _ ⟨_, _, e, _⟩ => by rw [e]; rfl) go__law_played
  have h9 : DFn P w K mg base _ _ _ _ sp__law_pair_right := ok__law_pair_right G h8 h7 (fun _ _ _ ⟨_, _, e, _⟩ => by rw [e]; rfl) go__law_pair_right
  have h10 : DFn P w K mg base _ _ _ _ sp__law_spoon := ok__law_spoon G (fun _ _ _ ⟨_, _, _, _, _, e, _⟩ => by rw [e]; rfl) go__law_spoon
  have h11 : DFn P w K mg base _ _ _ _ sp__law_shuffled := ok__law_shuffled G h10 (fun _ _ _ ⟨_, _, _, _, _, e, _⟩ => by rw [e]; rfl) go__law_shuffled
  have h12 : DFn P w K mg base _ _ _ _ sp__law_pair := ok__law_pair G h10 h11 (fun _ _ _ ⟨_, _, _, _, e, _⟩ => by rw [e]; rfl) go__law_pair
  have h13 : DFn P w K mg base _ _ _ _ sp__law_bowl := ok__law_bowl G (fun _ _ _ ⟨_, _, e, _⟩ => by rw [e]; rfl) go__law_bowl
  have h14 : DFn P w K mg base _ _ _ _ sp__law_start_right := ok__law_start_right G h7 h8 (fun _ _ _ ⟨_, _, _, e, _⟩ => by rw [e]; rfl) go__law_start_right
  have h15 : DFn P w K mg base _ _ _ _ sp__law_all_lanes := ok__law_all_lanes G (fun _ _ _ ⟨_, e, _⟩ => by rw [e]; rfl) go__law_all_lanes
  exact ok_law G h7 h9 h12 h13 h14 h15 (fun _ _ _ ⟨_, e, _⟩ => by rw [e]; rfl) go_law
theorem sp_meets (w : World) (ns : List Int) (_ : ns.length ≤ 63) (_ : ∀ z ∈ ns, Builtin.Int.intBits z ≤ 1048576) : sp_law [.scr ns] [] fun d _ => d = dB true := ⟨ns, rfl, rfl, fun _ => rfl⟩
end K33
open PySem PySem.W PyProof.Rows
set_option maxHeartbeats 0 in
theorem PySem.Challenge.cw_deadlane_k33_routes_holds : PySem.Challenge.rw_deadlane_k33_routes.Holds := by
  w_on; o_law; k_head; (case hw => w_witness2)
  k_fill
  refine DL.walk_ofD (l := PySem.Challenge.rw_deadlane_k33_routes) (n := 63) (k := 8) (x := "script") (dsp := fun _ => K33.sp_law) rfl (by decide) rfl ⟨rfl, by decide, by decide⟩ (fun w h Y => PySem.W.kIn_of Y) ?F K33.sp_meets
  case F =>
    intro w mg fa h KX G hmg
    refine' K33.end_mk KX G hmg (fun base T => K33.all_ok T) ?a_route_in ?l_route_in ?c_route_in ?k_route_in ?a_is_int ?l_is_int ?c_is_int ?k_is_int ?a_in_range ?l_in_range ?c_in_range ?k_in_range ?a_is_car ?l_is_car ?c_is_car ?k_is_car ?a_is_lane ?l_is_lane ?c_is_lane ?k_is_lane ?a_require_lane ?l_require_lane ?c_require_lane ?k_require_lane ?a_route ?l_route ?c_route ?k_route ?a__law_played ?l__law_played ?c__law_played ?k__law_played ?a__law_pair_right ?l__law_pair_right ?c__law_pair_right ?k__law_pair_right ?a__law_spoon ?l__law_spoon ?c__law_spoon ?k__law_spoon ?a__law_shuffled ?l__law_shuffled ?c__law_shuffled ?k__law_shuffled ?a__law_pair ?l__law_pair ?c__law_pair ?k__law_pair ?a__law_bowl ?l__law_bowl ?c__law_bowl ?k__law_bowl ?a__law_start_right ?l__law_start_right ?c__law_start_right ?k__law_start_right ?a__law_all_lanes ?l__law_all_lanes ?c__law_all_lanes ?k__law_all_lanes ?a_law ?l_law ?c_law ?k_law ?z_all ?z_bool ?z_int ?z_isinstance ?z_len ?z_list ?z_max ?z_min ?z_range ?z_repr ?z_set ?z_sorted ?z_tuple ?z_zip ?v_CARS
    (case a_route_in => k_is); (case l_route_in => k_is); (case c_route_in => k_is); (case k_route_in => k_is); (case a_is_int => k_is); (case l_is_int => k_is); (case c_is_int => k_is); (case k_is_int => k_is); (case a_in_range => k_is); (case l_in_range => k_is); (case c_in_range => k_is); (case k_in_range => k_is); (case a_is_car => k_is); (case l_is_car => k_is); (case c_is_car => k_is); (case k_is_car => k_is); (case a_is_lane => k_is); (case l_is_lane => k_is); (case c_is_lane => k_is); (case k_is_lane => k_is); (case a_require_lane => k_is); (case l_require_lane => k_is); (case c_require_lane => k_is); (case k_require_lane => k_is); (case a_route => k_is); (case l_route => k_is); (case c_route => k_is); (case k_route => k_is); (case a__law_played => k_is); (case l__law_played => k_is); (case c__law_played => k_is); (case k__law_played => k_is); (case a__law_pair_right => k_is); (case l__law_pair_right => k_is); (case c__law_pair_right => k_is); (case k__law_pair_right => k_is); (case a__law_spoon => k_is); (case l__law_spoon => k_is); (case c__law_spoon => k_is); (case k__law_spoon => k_is); (case a__law_shuffled => k_is); (case l__law_shuffled => k_is); (case c__law_shuffled => k_is); (case k__law_shuffled => k_is); (case a__law_pair => k_is); (case l__law_pair => k_is); (case c__law_pair => k_is); (case k__law_pair => k_is); (case a__law_bowl => k_is); (case l__law_bowl => k_is); (case c__law_bowl => k_is); (case k__law_bowl => k_is); (case a__law_start_right => k_is); (case l__law_start_right => k_is); (case c__law_start_right => k_is); (case k__law_start_right => k_is); (case a__law_all_lanes => k_is); (case l__law_all_lanes => k_is); (case c__law_all_lanes => k_is); (case k__law_all_lanes => k_is); (case a_law => k_is); (case l_law => k_is); (case c_law => k_is); (case k_law => k_is); (case z_all => k_is); (case z_bool => k_is); (case z_int => k_is); (case z_isinstance => k_is); (case z_len => k_is); (case z_list => k_is); (case z_max => k_is); (case z_min => k_is); (case z_range => k_is); (case z_repr => k_is); (case z_set => k_is); (case z_sorted => k_is); (case z_tuple => k_is); (case z_zip => k_is); (case v_CARS => k_is)


