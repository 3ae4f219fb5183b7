import PyProof.Rows.All
import Wide.All
import OpenK.AllK
import Wide.FinOn
import HandS.ForMost
import HandS.TupAny
import HandS.TupMul
import HandS.Conv
import HandS.Zip
import HandS.IsInst
import HandS.Wide
import HandS.WideBits
import HandS.Defaults
import HandS.Deep
import HandS.Strs
import HandS.Style
import HandS.Rev
import HandS.RevRange
import HandS.SortInts
import HandS.Flow
import KE.KDictCopyH
import HandS.Walk
import KE.GoesEnum
import KE.GoesMore
import PyProof.FitsInt
import PyProof.ReprRoads
import HandS.SetFor
import HandS.DictComp
import HandS.EndBits
import PyProof.SeqIndex
import KE.KDictPairs
import KE.KEqDict
import HandS.TupSets
import KE.SortData
import PySem.Challenge.RW_deadlane_k35_programs_judged
set_option Elab.async false
set_option linter.all false
set_option maxRecDepth 100000
set_option autoImplicit false
set_option maxHeartbeats 1000000
/-! tuples that are known to be plain objects (their methods are found on the type) -/
namespace DL
open PySem PySem.Spec L2

/-- the object of a new tuple -/
abbrev tob (its : List Value) : Obj := { cls := .type "tuple", data := .seq its.toArray }
/-- a tuple at a, its object plain -/
def TupZ (H : Hp) (a : Addr) (xs : List V) : Prop := ∃ ob : Obj, ob.dict = none ∧ H a = some (.frz ob (.tup xs))
theorem TupZ.t {K : PySem.W.Frag} {H : Hp} {a : Addr} {xs : List V} (h : TupZ H a xs) : SqT K H a xs := let ⟨ob, _, e⟩ := h; .inl (.inr ⟨ob, e⟩)
/-- what a new tuple leaves -/
def NewZ (H : Hp) (xs : List V) (Q : VK) : Prop := ∀ (p : Addr) (ob : Obj), H p = none → ob.dict = none → Q (.ref p) (upd H p (.frz ob (.tup xs)))
section
variable {X : Cx} {pins : List (Addr × Obj)} {σ : L2.St} {H : Hp} {s : Shared}
theorem laidZ {its : List Value} {xs : List V} {Q : VK} {t' : Nat} (I : Inv X pins σ H s) (r : Vals xs its) (hz : xs.length ≤ sizeLine) (q : NewZ H xs Q) :
    EP X pins σ Q (.ref s.heap.objs.size) { s with heap := s.heap.push (tob its), toks := t' } := by
  have hn : H s.heap.objs.size = none := I.hok.fresh (Nat.le_refl _)
  have hnew : (s.heap.push (tob its)).get? s.heap.objs.size = some (tob its) := Heap.get?_push_size _ rfl
  refine ⟨V.ref s.heap.objs.size, _, I.laid (o := .frz (tob its) (.tup xs)) (fun b u e => Heap.get?_push_of_some _ e) (Nat.le_refl _) ⟨hnew, hz, its, r, _, hnew, rfl, 0, rfl⟩, rfl, q _ (tob its) hn rfl⟩
end
def tTupZ (t : TA) : TE := fun σ H Q => t σ H fun xs H1 => xs.length ≤ sizeLine ∧ NewZ H1 xs Q
section
variable {X : Cx} {es : List Expr} {t : TA} {pos : Pos}
theorem pe_tupZ {x1} (h : PA X es t) : PE X (.Tuple es x1 pos) (tTupZ t) := ⟨fun pins s σ H Q I hq =>
  wpAny_Tuple_spliced (thn (h.run pos pins s σ H _ I hq) fun us s1 ⟨xs, H1, I1, r, z, q⟩ => ⟨by rw [← r.length]; exact z, laidZ I1 r z q⟩)⟩
/-- t[lo:hi] -/
def rSlZ (K : PySem.W.Frag) : V → Option Int → Option Int → Hp → VK → Prop := fun x lo hi H Q => ∃ a xs, x = .ref a ∧ SqT K H a xs ∧
  (HT.sIx xs.length 0 lo = 0 ∧ HT.sIx xs.length xs.length hi = xs.length → Q (.ref a) H) ∧ NewZ H (cutV xs lo hi) Q
theorem sl_tupZ : SlR X (rSlZ X.K) := fun pins s σ H x v vl vu lo hi sl Q I rx hs pl pu h => by
  obtain ⟨a, xs, rfl, hx, q1, q2⟩ := h
  cases rx
  obtain ⟨its, r, ht, hz⟩ := I.tuple hx
  have hl : its.toArray.size = xs.length := by rw [List.size_toArray]; exact r.length.symm
  refine ⟨"tuple", _, PyProof.Rows.slot_tuple_getitem.lookup, ht.typeIs, ?_⟩
  by_cases hw : HT.sIx xs.length 0 lo = 0 ∧ HT.sIx xs.length xs.length hi = xs.length
  · exact getItem_tuple_whole ht hs pl pu (by rw [hl]; exact hw) ⟨V.ref a, H, I, rfl, q1 hw⟩
  · refine HT.getItem_tuple_cut ht hs pl pu (by rw [hl]; exact hw) ?_ (by rw [hl]; exact hz)
    rw [hl]
    exact laidZ (t' := s.toks) I ((r.drop _).take _) (Nat.le_trans (cutV_length xs lo hi) hz) q2
/-- t + u -/
def rCatZ (K : PySem.W.Frag) : R2 := fun x y H Q => ∃ a b xs ys, x = .ref a ∧ y = .ref b ∧ SqT K H a xs ∧ SqT K H b ys ∧ xs.length + ys.length ≤ sizeLine ∧
  (xs = [] → Q (.ref b) H) ∧ (ys = [] → Q (.ref a) H) ∧ NewZ H (xs ++ ys) Q
theorem op_catZ : OpR X (binaryOp .Add) (rCatZ X.K) := fun pins s σ H x y v u Q I rx ry h => by
  obtain ⟨a, b, xs, ys, rfl, rfl, ha, hb, hz, q0, q1, q2⟩ := h
  cases rx
  cases ry
  obtain ⟨its, r, ht, _⟩ := I.tuple ha
  obtain ⟨jts, r', ht', _⟩ := I.tuple hb
  by_cases hx : xs = []
  · subst hx
    cases r
    exact cat_tup0 ht ht' ⟨V.ref b, H, I, rfl, q0 rfl⟩
  · refine HT.cat_tup ht ht' (fun z => hx (r.nil_iff.mp z)) (fun z => ⟨V.ref a, H, I, rfl, q1 (r'.nil_iff.mp z)⟩) (fun _ => ?_) (by rw [← r.length, ← r'.length]; exact hz)
    exact laidZ (t' := s.toks) I (r.append r') (by rw [List.length_append]; exact hz) q2
/-- tuple(xs), tuple(t) -/
def rTupOf (K : PySem.W.Frag) : List V → Hp → VK → Prop := fun vs H Q => (∃ p xs, vs = [.ref p] ∧ SqL K H p xs ∧ NewZ H xs Q) ∨ (∃ p xs, vs = [.ref p] ∧ SqT K H p xs ∧ Q (.ref p) H)
theorem call_tupZ : CallR X (.type "tuple") (rTupOf X.K) := fun pins s σ H vs us Q I r h => by
  rcases h with ⟨p, xs, rfl, hs, q⟩ | ⟨p, xs, rfl, hs, q⟩
  · obtain ⟨u, rfl, ru⟩ := vals1 r
    cases ru
    obtain ⟨its, rv, pl, hz⟩ := I.list hs
    refine call_tuple_list pl.isList (fun h' hk => ?_) (by rw [List.size_toArray, ← rv.length]; exact hz)
    exact laidZ (t' := s.toks) (I.kept (t' := s.toks) hk) rv hz q
  · obtain ⟨u, rfl, ru⟩ := vals1 r
    cases ru
    obtain ⟨its, rv, pl, hz⟩ := I.tuple hs
    exact PyProof.Rows.call_tuple_tup pl ⟨V.ref p, H, I, rfl, q⟩
/-- divmod(i, j) -/
def rDivmod : List V → Hp → VK → Prop := fun vs H Q => ∃ i j, vs = [.int i, .int j] ∧ (0 < j ∧ j.natAbs.log2 < 9000) ∧ NewZ H [.int (i / j), .int (i % j)] Q
theorem call_divmodZ : CallR X (.builtin "divmod") rDivmod := fun pins s σ H vs us Q I r h => by
  obtain ⟨i, j, rfl, ⟨h1, h2⟩, q⟩ := h
  obtain ⟨u, v, rfl, ⟨t, rfl⟩, ⟨t', rfl⟩⟩ := vals2 r
  refine PyProof.Rows.divmod_int (by omega) ?_ (.inl (PyProof.noPylong_of_log2 h2))
  rw [Int.fdiv_eq_ediv_of_nonneg i (by omega), Int.fmod_eq_emod_of_nonneg i (by omega)]
  exact laidZ (xs := [.int (i / j), .int (i % j)]) (its := [.int (i / j) s.toks, .int (i % j) (s.toks + 1)]) I (.cons ⟨_, rfl⟩ (.cons ⟨_, rfl⟩ .nil)) (by simp only [List.length_cons, List.length_nil]; decide) q
/-- i ** j -/
def CPowW (i j : Int) : Prop := 0 ≤ j ∧ (Builtin.Int.intBits i : Int) * j ≤ 2 ^ 27
theorem op_powW : OpR X (binaryOp .Pow) (rI CPowW fun i j => .int (i ^ j.toNat)) := opI fun i j _ _ _ _ _ hc q => PyProof.Rows.pow_int hc.1 hc.2 q
/-- list + list over tracked lists -/
theorem op_catLC : OpR X (binaryOp .Add) rCat := op_cat
/-! the methods of a plain tuple -/
def tBMT (r : V → List V → Hp → VK → Prop) (to : TE) (t : TA) : TE := fun σ H Q => to σ H fun x H1 => (∃ p xs, x = .ref p ∧ TupZ H1 p xs) ∧ t σ H1 fun xs H2 => r x xs H2 Q
theorem pe_bmT {o e : Expr} {to : TE} {name : Str} {apos cpos : Pos} {id : String} {r : V → List V → Hp → VK → Prop} (pa : PlainAttrs "tuple") (slot : Slot "tuple" name id) (hty : typeOf (.builtin id) = pure (.type "method_descriptor")) (hm : MtR X id r) (ho : PE X o to) (ha : PA X (e :: es) t)
    (hbase : attributeBase o name X.env (eval o X.env) = eval o X.env := by rfl)
    (hfew : ((backTo cpos (starEach (e :: es) X.env)).all (fun x => !x.1) && (backToKw cpos (keywordEach [] X.env)).all (fun x => x.1.isSome) && decide ((e :: es).length + ([] : List Keyword).length + (if ([] : List Keyword).isEmpty then 0 else 1) < 30)) = true := by rfl)
    (hline : (apos.endLine == cpos.line) = true := by rfl) (hs : starEach (e :: es) X.env = (false, eval e X.env) :: starEach es X.env := by rfl) (hplain : (backTo cpos (starEach es X.env)).any (·.1) = false := by rfl) :
    PE X (.Call (.Attribute o name apos) (e :: es) [] cpos) (tBMT r to t) := ⟨fun pins s σ H Q I h => by
  refine wpAny_Call_method_late hbase hfew hline rfl (thn (ho.run pins s σ H _ I h) fun v s1 ⟨x, H1, I1, r1, ⟨p, xs, ep, ob, hd, hp⟩, q1⟩ => ?_)
  subst ep
  cases r1
  obtain ⟨g1, g2⟩ := (I1.hok p _ hp : ObjOk X.prog X.w H1 s1.heap p (.frz ob (.tup xs)))
  obtain ⟨_, its, _, ob', g3, g4, _⟩ := g2
  cases g1.symm.trans g3
  refine ⟨"tuple", id, pa, slot, hty, ⟨ob, g1, g4⟩, fun a ea => ⟨ob, by cases ea; exact g1, hd⟩, ?_⟩
  have hA := ha.run cpos pins s1 σ H1 _ I1 q1
  rw [hs] at hA ⊢
  exact Calls.callWith_builtin (by show (false || (backTo cpos (starEach es X.env)).any (·.1)) = false; rw [hplain]; rfl) (Calls.evalArgs_plain (thn hA fun us s2 ⟨vs, H2, I2, r2, q2⟩ => hm pins s2 σ H2 (V.ref p) vs _ us Q I2 rfl r2 q2))⟩
end
end DL

set_option Elab.async false
set_option linter.all false
set_option maxRecDepth 100000
set_option autoImplicit false
set_option maxHeartbeats 1000000
namespace DL
open PySem PySem.Spec L2

/-! ## keys carried by value, no bools among them -/
def ckIs : Leaf → Value → Bool
  | .none, .none => true
  | .num i, .int j _ => decide (j = i)
  | .text x, v => Value.isStrOf x v
  | _, _ => false
theorem ckIs_leaf : ∀ {k : Leaf} {v : Value}, ckIs k v = true → Leaf.isOf k v = true
  | .none, v, h => by cases v <;> first | rfl | exact absurd h Bool.false_ne_true
  | .num i, v, h => by cases v <;> first | exact h | exact absurd h Bool.false_ne_true
  | .text x, v, h => h
def cK (P : Program) (w : World) : KeyKind P w Leaf where
  is := ckIs
  hash := (leafKind P w).hash
  inj := fun v a b ha hb => (leafKind P w).inj v a b (ckIs_leaf ha) (ckIs_leaf hb)
  byValue := fun k v h => (leafKind P w).byValue k v (ckIs_leaf h)
  pyHash := fun hv h => (leafKind P w).pyHash (ckIs_leaf hv) h
  eqBool := fun hu hv h => (leafKind P w).eqBool (ckIs_leaf hu) (ckIs_leaf hv) h
  «strs» := fun k x t v h => by
    cases k with
    | none => exact absurd h Bool.false_ne_true
    | num i => exact absurd h Bool.false_ne_true
    | text y =>
      obtain ⟨u, hu⟩ := Value.isStrOf_shape (show Value.isStrOf y (.str x t) = true from h)
      injection hu with hx
      subst hx
      cases v <;> rfl
/-- a key as a value of the layer, as data -/
def kvV : Leaf → V
  | .none => .non
  | .num i => .int i
  | .text x => .str x
def kvD : Leaf → PyData
  | .none => .none
  | .num i => .int i
  | .text x => .str x
theorem ck_of {P : Program} {w : World} {k : Leaf} {u : Value} (r : RelV (kvV k) u) : (cK P w).is k u = true := by
  cases k with
  | none => cases (show u = Value.none from r); rfl
  | num i => obtain ⟨t, rfl⟩ := (show ∃ t, u = Value.int i t from r); exact decide_eq_true rfl
  | text x => obtain ⟨t, rfl⟩ := (show ∃ t, u = Value.str x t from r); exact (by simp [cK, ckIs, Value.isStrOf])
theorem ck_rel {P : Program} {w : World} {k : Leaf} {u : Value} (h : (cK P w).is k u = true) : RelV (kvV k) u := by
  cases k with
  | none => cases u <;> first | rfl | exact absurd h Bool.false_ne_true
  | num i =>
    cases u with
    | int j t => have e : j = i := of_decide_eq_true h
                 subst e; exact ⟨t, rfl⟩
    | _ => exact absurd h Bool.false_ne_true
  | text x =>
    obtain ⟨t, e⟩ := Value.isStrOf_shape (show Value.isStrOf x u = true from h)
    exact ⟨t, e⟩

/-- a dict at a with such keys, as an object of the layer -/
def DicO (P : Program) (w : World) (a : Addr) (kvs : List (Leaf × V)) : HO :=
  .ext fun h => kvs.length ≤ sizeLine ∧ (a == sysModules) = false ∧ ∃ vs, KV kvs vs ∧ h.DictOf (cK P w) a vs

/-- a dict whose object is known to stay what it is -/
def LckO (P : Program) (w : World) (ob : Obj) (kvs : List (Leaf × V)) (a : Addr) : HO :=
  .ext fun h => h.get? a = some ob ∧ kvs.length ≤ sizeLine ∧ (a == sysModules) = false ∧ ∃ vs, KV kvs vs ∧ h.DictOf (cK P w) a vs

/-! ## data that never changes -/
mutual
inductive Rp (P : Program) (w : World) (K : PySem.W.Frag) (F : Hp) : V → PyData → Prop
  | non : Rp P w K F .non .none
  | bl (b : Bool) : Rp P w K F (.bl b) (.bool b)
  | int (i : Int) : Rp P w K F (.int i) (.int i)
  | str (x : Str) : Rp P w K F (.str x) (.str x)
  | lst {a : Addr} {xs : List V} {ds : List PyData} : F a = some (.lst xs) → RpAll P w K F xs ds → Rp P w K F (.ref a) (.list ds)
  | tup {a : Addr} {xs : List V} {ds : List PyData} : TupZ F a xs → RpAll P w K F xs ds → Rp P w K F (.ref a) (.tuple ds)
  | dic {a : Addr} {kvs : List (Leaf × V)} {ps : List (PyData × PyData)} : F a = some (DicO P w a kvs) → ps.map (·.1) = kvs.map (fun p => kvD p.1) → RpAll P w K F (kvs.map (·.2)) (ps.map (·.2)) → Rp P w K F (.ref a) (.dict ps)
inductive RpAll (P : Program) (w : World) (K : PySem.W.Frag) (F : Hp) : List V → List PyData → Prop
  | nil : RpAll P w K F [] []
  | cons {v : V} {vs : List V} {d : PyData} {ds : List PyData} : Rp P w K F v d → RpAll P w K F vs ds → RpAll P w K F (v :: vs) (d :: ds)
end
def Ex (H H' : Hp) : Prop := ∀ a o, H a = some o → H' a = some o
theorem Ex.refl (H : Hp) : Ex H H := fun _ _ h => h
theorem Ex.trans {H H1 H2 : Hp} (a : Ex H H1) (b : Ex H1 H2) : Ex H H2 := fun x o h => b x o (a x o h)
theorem Ex.new {H : Hp} {p : Addr} {o : HO} (h : H p = none) : Ex H (upd H p o) := fun a u e => by
  rw [upd_ne (ne_of_none e h)]
  exact e
theorem Ex.rd {H H' : Hp} {a : Addr} {u : HO} (e : Ex H H') (h : Rd H a u) : Rd H' a u := by
  rcases h with h | ⟨o, h⟩
  · exact Or.inl (e a _ h)
  · exact Or.inr ⟨o, e a _ h⟩
theorem Ex.l {K : PySem.W.Frag} {H H' : Hp} {a : Addr} {xs : List V} (e : Ex H H') (h : SqL K H a xs) : SqL K H' a xs := h.imp e.rd id
theorem Ex.t {K : PySem.W.Frag} {H H' : Hp} {a : Addr} {xs : List V} (e : Ex H H') (h : SqT K H a xs) : SqT K H' a xs := h.imp e.rd id
theorem TupZ.up {F F' : Hp} {a : Addr} {xs : List V} (h : TupZ F a xs) (e : Ex F F') : TupZ F' a xs := let ⟨ob, d, q⟩ := h; ⟨ob, d, e _ _ q⟩
section
variable {P : Program} {w : World} {K : PySem.W.Frag} {F F' : Hp}
mutual
theorem Rp.up (e : Ex F F') : ∀ {v : V} {d : PyData}, Rp P w K F v d → Rp P w K F' v d
  | _, _, .non => .non
  | _, _, .bl b => .bl b
  | _, _, .int i => .int i
  | _, _, .str x => .str x
  | _, _, .lst h r => .lst (e _ _ h) (RpAll.up e r)
  | _, _, .tup h r => .tup (h.up e) (RpAll.up e r)
  | _, _, .dic h k r => .dic (e _ _ h) k (RpAll.up e r)
theorem RpAll.up (e : Ex F F') : ∀ {vs : List V} {ds : List PyData}, RpAll P w K F vs ds → RpAll P w K F' vs ds
  | _, _, .nil => .nil
  | _, _, .cons h r => .cons (Rp.up e h) (RpAll.up e r)
end
theorem RpAll.length : ∀ {vs : List V} {ds : List PyData}, RpAll P w K F vs ds → vs.length = ds.length
  | _, _, .nil => rfl
  | _, _, .cons _ r => by rw [List.length_cons, List.length_cons, RpAll.length r]
end

/-! ## the state of the data reading -/
inductive DV where
  | imm (d : PyData)
  | cell (k : Nat)
  | raw (v : V)
  | obj (φ : Addr → HO)
  | scr (ns : List Int)
/-- what a cell holds -/
inductive DO where
  | lst (ds : List DV)
  | dic (kvs : List (Leaf × DV))
  | ins (C : Addr) (fs : List (Str × DV))
  | ho (φ : Addr → HO)
  | lck (ob : Obj) (kvs : List (Leaf × DV))
structure DSt where
  ρ : List (Option DV)
  μ : List (Option DO)
def DSt.get (S : DSt) (i : Nat) : Option DV := (S.ρ[i]?).getD none
def DSt.set (S : DSt) (i : Nat) (d : DV) : DSt := ⟨S.ρ.set i (some d), S.μ⟩
def DSt.cell (S : DSt) (k : Nat) : Option DO := (S.μ[k]?).getD none
def DSt.put (S : DSt) (k : Nat) (o : DO) : DSt := ⟨S.ρ, S.μ.set k (some o)⟩
def DSt.new (S : DSt) (o : DO) : DSt := ⟨S.ρ, S.μ ++ [some o]⟩

section
variable (P : Program) (w : World) (K : PySem.W.Frag)
/-- a value stands for a reading -/
def VOk (F : Hp) (α : List Addr) (v : V) : DV → Prop
  | .imm d => Rp P w K F v d
  | .cell k => ∃ a, α[k]? = some a ∧ v = .ref a
  | .raw u => v = u
  | .obj φ => ∃ b, v = .ref b ∧ F b = some (φ b)
  | .scr ns => ∃ b, v = .ref b ∧ SqL K F b (ns.map V.int)
def COk (F : Hp) (α : List Addr) (H : Hp) (a : Addr) : DO → Prop
  | .lst ds => ∃ xs, H a = some (.lst xs) ∧ Paired (VOk P w K F α) xs ds
  | .dic kvs => ∃ ks, H a = some (DicO P w a ks) ∧ Paired (fun (p : Leaf × V) (q : Leaf × DV) => p.1 = q.1 ∧ VOk P w K F α p.2 q.2) ks kvs
  | .ins C fs => ∃ dx gs, H a = some (.ins C dx gs) ∧ Paired (fun (p : Str × V) (q : Str × DV) => p.1 = q.1 ∧ VOk P w K F α p.2 q.2) gs fs
  | .ho φ => H a = some (φ a)
  | .lck ob kvs => ∃ ks, H a = some (LckO P w ob ks a) ∧ Paired (fun (p : Leaf × V) (q : Leaf × DV) => p.1 = q.1 ∧ VOk P w K F α p.2 q.2) ks kvs
/-- the entry of a def: what is known there, the heap, the cells that are handed in -/
structure Bs where
  F : Hp
  H : Hp
  ps : List Addr
structure StAt (B : Bs) (S : DSt) (σ : St) (ts : List (V × DV)) (H F : Hp) (α : List Addr) : Prop where
  fh : Ex F H
  bh : Ex B.F B.H
  bf : Ex B.F F
  bc : ∀ a o, B.H a = some o → B.F a = none → a ∉ B.ps → H a = some o ∧ F a = none ∧ a ∉ α
  bp : α.take B.ps.length = B.ps
  bn : ∀ a ∈ α, a ∈ B.ps ∨ B.H a = none
  nd : α.Nodup
  al : α.length = S.μ.length
  an : ∀ a ∈ α, H a ≠ none
  len : S.ρ.length = σ.length
  sl : ∀ (i : Nat) (d : DV), S.ρ[i]? = some (some d) → ∃ v, σ[i]? = some (some v) ∧ VOk P w K F α v d
  tm : ∀ p ∈ ts, VOk P w K F α p.1 p.2
  ce : ∀ (k : Nat) (o : DO), S.μ[k]? = some (some o) → ∃ a, α[k]? = some a ∧ F a = none ∧ COk P w K F α H a o
def StOk (B : Bs) (S : DSt) (σ : St) (ts : List (V × DV)) (H : Hp) : Prop := ∃ F α, StAt P w K B S σ ts H F α
end

abbrev DTE := DSt → (DV → DSt → Prop) → Prop
abbrev DTT := DSt → (Bool → DSt → Prop) → Prop
abbrev DTA := DSt → (List DV → DSt → Prop) → Prop
structure DEnds where
  nx : DSt → Prop
  rt : DV → DSt → Prop
  bk : DSt → Prop := fun _ => False
  ct : DSt → Prop := fun _ => False
abbrev DTS := DEnds → DSt → Prop

section
variable (P : Program) (w : World) (K : PySem.W.Frag)
def SndE (te : TE) (de : DTE) : Prop := ∀ (B : Bs) (S : DSt) (σ : St) (ts : List (V × DV)) (H : Hp) (R : DV → DSt → Prop) (Q : VK), StOk P w K B S σ ts H → de S R →
  (∀ v d S' H', R d S' → StOk P w K B S' σ ((v, d) :: ts) H' → Q v H') → te σ H Q
def SndT (tt : TT) (dt : DTT) : Prop := ∀ (B : Bs) (S : DSt) (σ : St) (ts : List (V × DV)) (H : Hp) (R : Bool → DSt → Prop) (Q : Bool → Hp → Prop), StOk P w K B S σ ts H → dt S R →
  (∀ b S' H', R b S' → StOk P w K B S' σ ts H' → Q b H') → tt σ H Q
def SndA (ta : TA) (da : DTA) : Prop := ∀ (B : Bs) (S : DSt) (σ : St) (ts : List (V × DV)) (H : Hp) (R : List DV → DSt → Prop) (Q : List V → Hp → Prop), StOk P w K B S σ ts H → da S R →
  (∀ vs ds S' H', vs.length = ds.length → R ds S' → StOk P w K B S' σ (vs.zip ds ++ ts) H' → Q vs H') → ta σ H Q
/-- the ends of a statement carry the ends of its reading -/
structure Lift (B : Bs) (ts : List (V × DV)) (D : DEnds) (G : Ends) : Prop where
  nx : ∀ S σ H, D.nx S → StOk P w K B S σ ts H → G.nx σ H
  rt : ∀ v d S σ H, D.rt d S → StOk P w K B S σ ((v, d) :: ts) H → G.rt v H
  bk : ∀ S σ H, D.bk S → StOk P w K B S σ ts H → G.bk σ H
  ct : ∀ S σ H, D.ct S → StOk P w K B S σ ts H → G.ct σ H
def SndS (t : TS) (dt : DTS) : Prop := ∀ (B : Bs) (S : DSt) (σ : St) (ts : List (V × DV)) (H : Hp) (D : DEnds) (G : Ends), StOk P w K B S σ ts H → dt D S → Lift P w K B ts D G → t G σ H
end
/-! ## the judgements -/
structure DE (X : Cx) (e : Expr) (de : DTE) : Prop where
  ex : ∃ te, PE X e te ∧ SndE X.prog X.w X.K te de
structure DT (X : Cx) (e : Expr) (dt : DTT) : Prop where
  ex : ∃ tt, PT X e tt ∧ SndT X.prog X.w X.K tt dt
structure DW (X : Cx) (e : Expr) (dt : DTT) : Prop where
  ex : ∃ tt, PW X e tt ∧ SndT X.prog X.w X.K tt dt
structure DA (X : Cx) (es : List Expr) (da : DTA) : Prop where
  ex : ∃ ta, PA X es ta ∧ SndA X.prog X.w X.K ta da
structure DS (X : Cx) (st : Stmt) (dt : DTS) : Prop where
  ex : ∃ t, PS X st t ∧ SndS X.prog X.w X.K t dt
structure DSs (X : Cx) (st : List Stmt) (dt : DTS) : Prop where
  ex : ∃ t, PSs X st t ∧ SndS X.prog X.w X.K t dt

section
variable {P : Program} {w : World} {K : PySem.W.Frag} {B : Bs} {S S' : DSt} {σ : St} {ts : List (V × DV)} {H F F' : Hp} {α : List Addr} {v : V} {d : DV}
theorem VOk.up (e : Ex F F') {β : List Addr} (h : VOk P w K F α v d) : VOk P w K F' (α ++ β) v d := by
  cases d with
  | imm d => exact Rp.up e h
  | cell k =>
    obtain ⟨a, h1, h2⟩ := h
    exact ⟨a, by rw [List.getElem?_append_left (List.getElem?_eq_some_iff.mp h1).1]; exact h1, h2⟩
  | raw u => exact h
  | obj φ =>
    obtain ⟨b, h1, h2⟩ := h
    exact ⟨b, h1, e _ _ h2⟩
  | scr ns =>
    obtain ⟨b, h1, h2⟩ := h
    exact ⟨b, h1, e.l h2⟩
theorem VOk.up0 (e : Ex F F') (h : VOk P w K F α v d) : VOk P w K F' α v d := by
  have := VOk.up (β := []) e h
  rwa [List.append_nil] at this
theorem paired_up {V1 D1 : Type} {r r' : V1 → D1 → Prop} (h : ∀ a b, r a b → r' a b) {xs : List V1} {ds : List D1} (p : Paired r xs ds) : Paired r' xs ds := Paired.mapP p h
theorem COk.up (e : Ex F F') {β : List Addr} {H' : Hp} {a : Addr} {o : DO} (ha : H' a = H a) (h : COk P w K F α H a o) : COk P w K F' (α ++ β) H' a o := by
  cases o with
  | lst ds =>
    obtain ⟨xs, h1, h2⟩ := h
    exact ⟨xs, ha.trans h1, paired_up (fun _ _ q => q.up e) h2⟩
  | dic kvs =>
    obtain ⟨xs, h1, h2⟩ := h
    exact ⟨xs, ha.trans h1, paired_up (fun _ _ q => ⟨q.1, q.2.up e⟩) h2⟩
  | ins C fs =>
    obtain ⟨dx, xs, h1, h2⟩ := h
    exact ⟨dx, xs, ha.trans h1, paired_up (fun _ _ q => ⟨q.1, q.2.up e⟩) h2⟩
  | ho φ => exact ha.trans h
  | lck ob kvs =>
    obtain ⟨xs, h1, h2⟩ := h
    exact ⟨xs, ha.trans h1, paired_up (fun _ _ q => ⟨q.1, q.2.up e⟩) h2⟩
theorem COk.up0 (e : Ex F F') {H' : Hp} {a : Addr} {o : DO} (ha : H' a = H a) (h : COk P w K F α H a o) : COk P w K F' α H' a o := by
  have := COk.up (β := []) e ha h
  rwa [List.append_nil] at this

theorem StOk.drop {p : V × DV} (h : StOk P w K B S σ (p :: ts) H) : StOk P w K B S σ ts H := by
  obtain ⟨F, α, h⟩ := h
  exact ⟨F, α, { h with tm := fun q hq => h.tm q (List.mem_cons_of_mem _ hq) }⟩
theorem StOk.sub {ts' : List (V × DV)} (h : StOk P w K B S σ ts H) (hs : ∀ p ∈ ts', p ∈ ts) : StOk P w K B S σ ts' H := by
  obtain ⟨F, α, h⟩ := h
  exact ⟨F, α, { h with tm := fun q hq => h.tm q (hs q hq) }⟩
/-- one more value that is known by what stands -/
theorem StOk.add (h : StOk P w K B S σ ts H) (hv : ∀ F α, StAt P w K B S σ ts H F α → VOk P w K F α v d) : StOk P w K B S σ ((v, d) :: ts) H := by
  obtain ⟨F, α, h⟩ := h
  refine ⟨F, α, { h with tm := fun q hq => ?_ }⟩
  rcases List.mem_cons.mp hq with e | hq
  · subst e; exact hv F α h
  · exact h.tm q hq
/-- a new object that never changes -/
theorem StAt.lay {p : Addr} {o : HO} (h : StAt P w K B S σ ts H F α) (hp : H p = none) : StAt P w K B S σ ts (upd H p o) (upd F p o) α := by
  have hpF : F p = none := by
    cases q : F p with
    | none => rfl
    | some u => rw [h.fh p u q] at hp; cases hp
  have hpa : p ∉ α := fun q => h.an p q hp
  have e : Ex F (upd F p o) := Ex.new hpF
  have ne : ∀ {a : Addr}, a ∈ α → a ≠ p := fun q e => hpa (e ▸ q)
  refine ⟨fun a u q => ?_, h.bh, h.bf.trans e, fun a u q1 q2 q3 => ?_, h.bp, h.bn, h.nd, h.al, fun a q => ?_, h.len, fun i d q => ?_, fun q hq => (h.tm q hq).up0 e, fun k u q => ?_⟩
  · by_cases c : a = p
    · subst c; rw [upd_same] at q ⊢; exact q
    · rw [upd_ne c] at q ⊢; exact h.fh a u q
  · obtain ⟨h1, h2, h3⟩ := h.bc a u q1 q2 q3
    have c : a ≠ p := ne_of_none h1 hp
    exact ⟨by rw [upd_ne c]; exact h1, by rw [upd_ne c]; exact h2, h3⟩
  · rw [upd_ne (ne q)]; exact h.an a q
  · obtain ⟨v, h1, h2⟩ := h.sl i d q
    exact ⟨v, h1, h2.up0 e⟩
  · obtain ⟨a, h1, h2, h3⟩ := h.ce k u q
    have c : a ≠ p := ne (List.mem_of_getElem? h1)
    exact ⟨a, h1, by rw [upd_ne c]; exact h2, h3.up0 e (upd_ne c)⟩
/-- what stood nowhere at the entry -/
theorem StAt.freshB {p : Addr} (h : StAt P w K B S σ ts H F α) (hp : H p = none) : B.H p = none := by
  cases q : B.H p with
  | none => rfl
  | some o =>
    exfalso
    cases q2 : B.F p with
    | some u =>
      have := h.fh p u (h.bf p u q2)
      rw [hp] at this; cases this
    | none =>
      by_cases c : p ∈ B.ps
      · exact h.an p (List.mem_of_mem_take (by rw [h.bp]; exact c)) hp
      · have := (h.bc p o q q2 c).1
        rw [hp] at this; cases this
/-- a new cell -/
theorem StAt.cellNew {p : Addr} {o : HO} {u : DO} (h : StAt P w K B S σ ts H F α) (hp : H p = none) (hu : COk P w K F (α ++ [p]) (upd H p o) p u) : StAt P w K B (S.new u) σ ts (upd H p o) F (α ++ [p]) := by
  have hB : B.H p = none := h.freshB hp
  have hpF : F p = none := by
    cases q : F p with
    | none => rfl
    | some u => rw [h.fh p u q] at hp; cases hp
  have hpa : p ∉ α := fun q => h.an p q hp
  have ne : ∀ {a : Addr}, a ∈ α → a ≠ p := fun q e => hpa (e ▸ q)
  have hbl : B.ps.length ≤ α.length := by
    have := congrArg List.length h.bp
    rw [List.length_take] at this
    omega
  refine ⟨h.fh.trans (Ex.new hp), h.bh, h.bf, fun a v q1 q2 q3 => ?_, ?_, fun a q => ?_, ?_, ?_, fun a q => ?_, h.len, fun i d q => ?_, fun q hq => (h.tm q hq).up (Ex.refl _), fun k v q => ?_⟩
  · obtain ⟨h1, h2, h3⟩ := h.bc a v q1 q2 q3
    have c : a ≠ p := ne_of_none h1 hp
    refine ⟨by rw [upd_ne c]; exact h1, h2, fun q => ?_⟩
    rcases List.mem_append.mp q with q | q
    · exact h3 q
    · exact c (List.mem_singleton.mp q)
  · rw [List.take_append_of_le_length hbl]; exact h.bp
  · rcases List.mem_append.mp q with q | q
    · exact h.bn a q
    · rw [List.mem_singleton.mp q]; exact .inr hB
  · rw [List.nodup_append]
    exact ⟨h.nd, by simp, fun a q b r => by rw [List.mem_singleton.mp r]; exact ne q⟩
  · show (α ++ [p]).length = (S.μ ++ [some u]).length
    rw [List.length_append, List.length_append, h.al, List.length_singleton, List.length_singleton]
  · rcases List.mem_append.mp q with q | q
    · rw [upd_ne (ne q)]; exact h.an a q
    · rw [List.mem_singleton.mp q, upd_same]; exact fun z => by cases z
  · obtain ⟨v, h1, h2⟩ := h.sl i d q
    exact ⟨v, h1, h2.up (Ex.refl _)⟩
  · have q' : (S.μ ++ [some u])[k]? = some (some v) := q
    by_cases hk : k < S.μ.length
    · rw [List.getElem?_append_left hk] at q'
      obtain ⟨a, h1, h2, h3⟩ := h.ce k v q'
      have c : a ≠ p := ne (List.mem_of_getElem? h1)
      exact ⟨a, by rw [List.getElem?_append_left (by rw [h.al]; exact hk)]; exact h1, h2, h3.up (Ex.refl _) (upd_ne c)⟩
    · have hk2 : k = S.μ.length := by
        have := (List.getElem?_eq_some_iff.mp q').1
        rw [List.length_append, List.length_singleton] at this
        omega
      subst hk2
      rw [List.getElem?_append_right (Nat.le_refl _), Nat.sub_self] at q'
      cases q'
      exact ⟨p, by rw [← h.al, List.getElem?_append_right (Nat.le_refl _), Nat.sub_self]; rfl, hpF, hu⟩
/-- a cell's content changes -/
theorem StAt.cellPut {k : Nat} {a : Addr} {o : HO} {u : DO} (h : StAt P w K B S σ ts H F α) (ha : α[k]? = some a) (hF : F a = none) (hu : COk P w K F α (upd H a o) a u) : StAt P w K B (S.put k u) σ ts (upd H a o) F α := by
  have am : a ∈ α := List.mem_of_getElem? ha
  refine ⟨fun b v q => ?_, h.bh, h.bf, fun b v q1 q2 q3 => ?_, h.bp, h.bn, h.nd, ?_, fun b q => ?_, h.len, h.sl, h.tm, fun j v q => ?_⟩
  · have c : b ≠ a := fun e => by rw [e, hF] at q; cases q
    rw [upd_ne c]; exact h.fh b v q
  · obtain ⟨h1, h2, h3⟩ := h.bc b v q1 q2 q3
    have c : b ≠ a := fun e => h3 (e ▸ am)
    exact ⟨by rw [upd_ne c]; exact h1, h2, h3⟩
  · show α.length = (S.μ.set k (some u)).length
    rw [List.length_set]; exact h.al
  · by_cases c : b = a
    · rw [c, upd_same]; exact fun z => by cases z
    · rw [upd_ne c]; exact h.an b q
  · have q' : (S.μ.set k (some u))[j]? = some (some v) := q
    by_cases c : k = j
    · subst c
      rw [List.getElem?_set_self (by rw [← h.al]; exact (List.getElem?_eq_some_iff.mp ha).1)] at q'
      cases q'
      exact ⟨a, ha, hF, hu⟩
    · rw [List.getElem?_set_ne c] at q'
      obtain ⟨b, h1, h2, h3⟩ := h.ce j v q'
      have cb : b ≠ a := fun e => by
        subst e
        have i1 := List.getElem?_eq_some_iff.mp ha
        have i2 := List.getElem?_eq_some_iff.mp h1
        exact c ((List.getElem_inj h.nd).mp (i1.2.trans i2.2.symm))
      exact ⟨b, h1, h2, h3.up0 (Ex.refl _) (upd_ne cb)⟩
end
end DL

set_option Elab.async false
set_option linter.all false
set_option maxRecDepth 100000
set_option autoImplicit false
set_option maxHeartbeats 1000000
namespace DL
open PySem PySem.Spec L2

/-! ## short names -/
abbrev dI (i : Int) : DV := .imm (.int i)
abbrev dB (b : Bool) : DV := .imm (.bool b)
abbrev dS (x : Str) : DV := .imm (.str x)
abbrev dN : DV := .imm .none
def allImm : List DV → Option (List PyData)
  | [] => some []
  | .imm d :: r => (allImm r).map (d :: ·)
  | _ :: _ => none
theorem allImm_map (ps : List PyData) : allImm (ps.map DV.imm) = some ps := by
  induction ps with
  | nil => rfl
  | cons p r ih => show (allImm (r.map DV.imm)).map _ = _; rw [ih]; rfl
theorem allImm_eq : ∀ {ds : List DV} {ps : List PyData}, allImm ds = some ps → ds = ps.map DV.imm
  | [], ps, h => by cases h; rfl
  | .imm d :: r, ps, h => by
    have h' : (allImm r).map (d :: ·) = some ps := h
    cases e : allImm r with
    | none => rw [e] at h'; cases h'
    | some q => rw [e] at h'; cases h'; rw [allImm_eq e]; rfl
  | .cell _ :: _, _, h => by cases h
  | .raw _ :: _, _, h => by cases h
  | .obj _ :: _, _, h => by cases h
  | .scr _ :: _, _, h => by cases h
/-- the items of a list (true) or of a tuple (false) -/
def DSt.seq (S : DSt) : DV → Option (Bool × List DV)
  | .imm (.list ds) => some (true, ds.map .imm)
  | .imm (.tuple ds) => some (false, ds.map .imm)
  | .cell k => match S.cell k with
    | some (.lst ds) => some (true, ds)
    | _ => none
  | .scr ns => some (true, ns.map fun n => .imm (.int n))
  | _ => none

section
variable {P : Program} {w : World} {K : PySem.W.Frag} {B : Bs} {S S' : DSt} {σ : St} {ts : List (V × DV)} {H F F' : Hp} {α : List Addr} {v : V} {d : DV}
theorem paired_imm : ∀ {xs : List V} {ps : List PyData}, RpAll P w K F xs ps → Paired (VOk P w K F α) xs (ps.map DV.imm)
  | _, _, .nil => .nil
  | _, _, .cons h r => .cons h (paired_imm r)
theorem imm_paired : ∀ {xs : List V} {ps : List PyData}, Paired (VOk P w K F α) xs (ps.map DV.imm) → RpAll P w K F xs ps
  | [], [], _ => .nil
  | [], _ :: _, h => by cases h
  | _ :: _, [], h => by cases h
  | _ :: _, _ :: _, .cons h r => .cons h (imm_paired r)
theorem cell_get {k : Nat} {o : DO} (h : S.cell k = some o) : S.μ[k]? = some (some o) := by
  unfold DSt.cell at h
  cases e : S.μ[k]? with
  | none => rw [e] at h; cases h
  | some u => rw [e] at h; exact congrArg some h
theorem get_slot {i : Nat} (h : S.get i = some d) : S.ρ[i]? = some (some d) := by
  unfold DSt.get at h
  cases e : S.ρ[i]? with
  | none => rw [e] at h; cases h
  | some u => rw [e] at h; exact congrArg some h
theorem scr_paired : ∀ (ns : List Int), Paired (VOk P w K F α) (ns.map V.int) (ns.map fun n => DV.imm (.int n))
  | [] => .nil
  | n :: r => .cons (.int n) (scr_paired r)
theorem StAt.seq (h : StAt P w K B S σ ts H F α) (hv : VOk P w K F α v d) {b : Bool} {ds : List DV} (e : S.seq d = some (b, ds)) :
    ∃ a xs, v = .ref a ∧ (if b = true then SqL K H a xs else SqT K H a xs) ∧ Paired (VOk P w K F α) xs ds := by
  cases d with
  | imm d =>
    cases d with
    | list ps =>
      cases e
      cases hv with
      | lst h1 h2 => exact ⟨_, _, rfl, SqL.of (h.fh _ _ h1), paired_imm h2⟩
    | tuple ps =>
      cases e
      cases hv with
      | tup h1 h2 => exact ⟨_, _, rfl, (h1.up h.fh).t, paired_imm h2⟩
    | none => cases e
    | bool b => cases e
    | int i => cases e
    | str x => cases e
    | dict kvs => cases e
  | cell k =>
    obtain ⟨a, h1, rfl⟩ := hv
    have e' : (match S.cell k with | some (.lst ds) => some (true, ds) | _ => none) = some (b, ds) := e
    cases q : S.cell k with
    | none => rw [q] at e'; cases e'
    | some o =>
      rw [q] at e'
      cases o with
      | lst es =>
        cases e'
        obtain ⟨a', g1, _, xs, g2, g3⟩ := h.ce k _ (cell_get q)
        cases h1.symm.trans g1
        exact ⟨a, xs, rfl, SqL.of g2, g3⟩
      | dic _ => cases e'
      | ins _ _ => cases e'
      | ho _ => cases e'
      | lck _ _ => cases e'
  | raw _ => cases e
  | obj _ => cases e
  | scr ns =>
    cases e
    obtain ⟨a, rfl, h1⟩ := hv
    exact ⟨a, _, rfl, h.fh.l h1, scr_paired ns⟩
/-- a list that is tracked: its address and its items -/
def DSt.lst (S : DSt) : DV → Option (List DV)
  | .imm (.list ds) => some (ds.map .imm)
  | .cell k => match S.cell k with
    | some (.lst ds) => some ds
    | _ => none
  | _ => none
theorem StAt.lst (h : StAt P w K B S σ ts H F α) (hv : VOk P w K F α v d) {ds : List DV} (e : S.lst d = some ds) :
    ∃ a xs, v = .ref a ∧ H a = some (.lst xs) ∧ Paired (VOk P w K F α) xs ds := by
  cases d with
  | imm d =>
    cases d with
    | list ps =>
      cases e
      cases hv with
      | lst h1 h2 => exact ⟨_, _, rfl, h.fh _ _ h1, paired_imm h2⟩
    | tuple ps => cases e
    | none => cases e
    | bool b => cases e
    | int i => cases e
    | str x => cases e
    | dict kvs => cases e
  | cell k =>
    obtain ⟨a, h1, rfl⟩ := hv
    have e' : (match S.cell k with | some (.lst ds) => some ds | _ => none) = some ds := e
    cases q : S.cell k with
    | none => rw [q] at e'; cases e'
    | some o =>
      rw [q] at e'
      cases o with
      | lst es =>
        cases e'
        obtain ⟨a', g1, _, xs, g2, g3⟩ := h.ce k _ (cell_get q)
        cases h1.symm.trans g1
        exact ⟨a, xs, rfl, g2, g3⟩
      | dic _ => cases e'
      | ins _ _ => cases e'
      | ho _ => cases e'
      | lck _ _ => cases e'
  | raw _ => cases e
  | obj _ => cases e
  | scr _ => cases e
theorem Paired.atI' {xs : List V} {ds : List DV} {r : V → DV → Prop} (p : Paired r xs ds) {i : Int} {d : DV} (h : atI ds i = some d) : ∃ v, atI xs i = some v ∧ r v d := by
  have hl := Paired.length p
  unfold atI at h ⊢
  rw [hl]
  cases e : ixN ds.length i with
  | none => rw [e] at h; cases h
  | some j =>
    rw [e] at h
    have h' : ds[j]? = some d := h
    have : ∀ {xs : List V} {ds : List DV} {j : Nat}, Paired r xs ds → ds[j]? = some d → ∃ v, xs[j]? = some v ∧ r v d := by
      intro xs ds j p
      induction p generalizing j with
      | nil => intro h; simp at h
      | @cons a b as bs h1 _ ih =>
        intro h
        cases j with
        | zero => simp at h; subst h; exact ⟨a, rfl, h1⟩
        | succ j => exact ih (by simpa using h)
    exact this p h'
theorem Paired.take' {V1 D1 : Type} {r : V1 → D1 → Prop} : ∀ {xs : List V1} {ds : List D1} (n : Nat), Paired r xs ds → Paired r (xs.take n) (ds.take n)
  | _, _, 0, _ => .nil
  | _, _, _ + 1, .nil => .nil
  | _, _, n + 1, .cons h t => .cons h (Paired.take' n t)
theorem Paired.drop' {V1 D1 : Type} {r : V1 → D1 → Prop} : ∀ {xs : List V1} {ds : List D1} (n : Nat), Paired r xs ds → Paired r (xs.drop n) (ds.drop n)
  | _, _, 0, p => p
  | _, _, _ + 1, .nil => .nil
  | _, _, n + 1, .cons _ t => Paired.drop' n t
theorem Paired.app' {V1 D1 : Type} {r : V1 → D1 → Prop} : ∀ {xs ys : List V1} {ds es : List D1}, Paired r xs ds → Paired r ys es → Paired r (xs ++ ys) (ds ++ es)
  | _, _, _, _, .nil, q => q
  | _, _, _, _, .cons h t, q => .cons h (Paired.app' t q)
theorem Paired.set' {V1 D1 : Type} {r : V1 → D1 → Prop} {x : V1} {d : D1} (hx : r x d) : ∀ {xs : List V1} {ds : List D1} (i : Nat), Paired r xs ds → Paired r (xs.set i x) (ds.set i d)
  | _, _, _, .nil => .nil
  | _, _, 0, .cons _ t => .cons hx t
  | _, _, i + 1, .cons h t => .cons h (Paired.set' hx i t)
theorem Paired.erase' {V1 D1 : Type} {r : V1 → D1 → Prop} : ∀ {xs : List V1} {ds : List D1} (i : Nat), Paired r xs ds → Paired r (xs.eraseIdx i) (ds.eraseIdx i)
  | _, _, _, .nil => .nil
  | _, _, 0, .cons _ t => t
  | _, _, i + 1, .cons h t => .cons h (Paired.erase' i t)
theorem Paired.rev' {V1 D1 : Type} {r : V1 → D1 → Prop} {xs : List V1} {ds : List D1} (p : Paired r xs ds) : Paired r xs.reverse ds.reverse := by
  induction p with
  | nil => exact .nil
  | cons h _ ih => rw [List.reverse_cons, List.reverse_cons]; exact Paired.app' ih (.cons h .nil)
theorem Paired.dropLast' {V1 D1 : Type} {r : V1 → D1 → Prop} {xs : List V1} {ds : List D1} (p : Paired r xs ds) : Paired r xs.dropLast ds.dropLast := by
  rw [List.dropLast_eq_take, List.dropLast_eq_take, Paired.length p]
  exact Paired.take' _ p
end

/-! ## expressions -/
def dVar (i : Nat) : DTE := fun S R => match S.get i with
  | some d => R d S
  | none => False
def dC (d : DV) : DTE := fun S R => R d S
abbrev D2 := DV → DV → DSt → (DV → DSt → Prop) → Prop
abbrev D1 := DV → DSt → (DV → DSt → Prop) → Prop
def dOp (g : D2) (da db : DTE) : DTE := fun S R => da S fun x S1 => db S1 fun y S2 => g x y S2 R
def dUn (g : D1) (da : DTE) : DTE := fun S R => da S fun x S1 => g x S1 R
def dTest (de : DTE) : DTT := fun S R => de S fun x S1 => match x with
  | .imm (.bool b) => R b S1
  | _ => False
def dAnd (t u : DTT) : DTT := fun S R => t S fun b S1 => if b = true then u S1 R else R false S1
def dOr (t u : DTT) : DTT := fun S R => t S fun b S1 => if b = true then R true S1 else u S1 R
def dNot (t : DTT) : DTT := fun S R => t S fun b S1 => R (!b) S1
def dIf (c : DTT) (da db : DTE) : DTE := fun S R => c S fun b S1 => if b = true then da S1 R else db S1 R
/-- and, or of bools as values -/
def dAndV (da db : DTE) : DTE := fun S R => da S fun x S1 => match x with
  | .imm (.bool b) => if b = true then db S1 R else R (dB false) S1
  | _ => False
def dOrV (da db : DTE) : DTE := fun S R => da S fun x S1 => match x with
  | .imm (.bool b) => if b = true then R (dB true) S1 else db S1 R
  | _ => False
def dNotV (da : DTE) : DTE := fun S R => da S fun x S1 => match x with
  | .imm (.bool b) => R (dB (!b)) S1
  | _ => False
def dNil : DTA := fun S R => R [] S
def dCons (da : DTE) (dr : DTA) : DTA := fun S R => da S fun x S1 => dr S1 fun xs S2 => R (x :: xs) S2
def dTup (da : DTA) : DTE := fun S R => da S fun ds S1 => ds.length ≤ sizeLine ∧ match allImm ds with
  | some ps => R (.imm (.tuple ps)) S1
  | none => False
def dLst (da : DTA) : DTE := fun S R => da S fun ds S1 => ds.length ≤ sizeLine ∧ match allImm ds with
  | some ps => R (.imm (.list ps)) S1
  | none => False
/-- a list display that becomes a cell -/
def dLstC (da : DTA) : DTE := fun S R => da S fun ds S1 => ds.length ≤ sizeLine ∧ R (.cell S1.μ.length) (S1.new (.lst ds))
/-- a call of a built-in with values -/
abbrev DC1 := List DV → DSt → (DV → DSt → Prop) → Prop
def dCB (g : DC1) (da : DTA) : DTE := fun S R => da S fun ds S1 => g ds S1 R

section
variable (P : Program) (w : World) (K : PySem.W.Frag)
def SndR (r : R2) (g : D2) : Prop := ∀ (B : Bs) (S : DSt) (σ : St) (ts : List (V × DV)) (H : Hp) (x y : V) (dx dy : DV) (R : DV → DSt → Prop) (Q : VK), StOk P w K B S σ ((y, dy) :: (x, dx) :: ts) H → g dx dy S R →
  (∀ v d S' H', R d S' → StOk P w K B S' σ ((v, d) :: ts) H' → Q v H') → r x y H Q
def SndU (r : V → Hp → VK → Prop) (g : D1) : Prop := ∀ (B : Bs) (S : DSt) (σ : St) (ts : List (V × DV)) (H : Hp) (x : V) (dx : DV) (R : DV → DSt → Prop) (Q : VK), StOk P w K B S σ ((x, dx) :: ts) H → g dx S R →
  (∀ v d S' H', R d S' → StOk P w K B S' σ ((v, d) :: ts) H' → Q v H') → r x H Q
def SndC (r : List V → Hp → VK → Prop) (g : DC1) : Prop := ∀ (B : Bs) (S : DSt) (σ : St) (ts : List (V × DV)) (H : Hp) (xs : List V) (ds : List DV) (R : DV → DSt → Prop) (Q : VK), xs.length = ds.length → StOk P w K B S σ (xs.zip ds ++ ts) H → g ds S R →
  (∀ v d S' H', R d S' → StOk P w K B S' σ ((v, d) :: ts) H' → Q v H') → r xs H Q
end
/-- an operation with its data reading -/
structure OpD (X : Cx) (f : Value → Value → Sem Value) (g : D2) : Prop where
  ex : ∃ r, OpR X f r ∧ SndR X.prog X.w X.K r g
structure UnD (X : Cx) (f : Value → Sem Value) (g : D1) : Prop where
  ex : ∃ r, UnR X f r ∧ SndU X.prog X.w X.K r g
structure CallD (X : Cx) (f : Value) (g : DC1) : Prop where
  ex : ∃ r, CallR X f r ∧ SndC X.prog X.w X.K r g

section
variable {P : Program} {w : World} {K : PySem.W.Frag} {B : Bs} {S S' : DSt} {σ : St} {ts : List (V × DV)} {H F F' : Hp} {α : List Addr} {v : V} {d : DV}
theorem StOk.top (h : StOk P w K B S σ ((v, d) :: ts) H) : ∃ F α, StAt P w K B S σ ((v, d) :: ts) H F α ∧ VOk P w K F α v d := by
  obtain ⟨F, α, h⟩ := h
  exact ⟨F, α, h, h.tm _ List.mem_cons_self⟩
theorem StAt.top (h : StAt P w K B S σ ((v, d) :: ts) H F α) : VOk P w K F α v d := h.tm _ List.mem_cons_self
theorem StAt.top2 {x : V} {dx : DV} (h : StAt P w K B S σ ((v, d) :: (x, dx) :: ts) H F α) : VOk P w K F α x dx := h.tm _ (List.mem_cons_of_mem _ List.mem_cons_self)
theorem StAt.sub {ts' : List (V × DV)} (h : StAt P w K B S σ ts H F α) (hs : ∀ p ∈ ts', p ∈ ts) : StAt P w K B S σ ts' H F α := { h with tm := fun q hq => h.tm q (hs q hq) }
theorem StAt.add (h : StAt P w K B S σ ts H F α) (hv : VOk P w K F α v d) : StAt P w K B S σ ((v, d) :: ts) H F α := by
  refine { h with tm := fun q hq => ?_ }
  rcases List.mem_cons.mp hq with e | hq
  · subst e; exact hv
  · exact h.tm q hq
theorem mem2 {x y : V} {dx dy : DV} {ts : List (V × DV)} : ∀ p ∈ ts, p ∈ (y, dy) :: (x, dx) :: ts := fun _ h => List.mem_cons_of_mem _ (List.mem_cons_of_mem _ h)
theorem mem1 {x : V} {dx : DV} {ts : List (V × DV)} : ∀ p ∈ ts, p ∈ (x, dx) :: ts := fun _ h => List.mem_cons_of_mem _ h
theorem memA {us ts : List (V × DV)} : ∀ p ∈ ts, p ∈ us ++ ts := fun _ h => List.mem_append_right _ h
theorem StAt.ok (h : StAt P w K B S σ ts H F α) : StOk P w K B S σ ts H := ⟨F, α, h⟩
/-- the arguments that stand -/
theorem StAt.args {xs : List V} {ds : List DV} (hl : xs.length = ds.length) (h : StAt P w K B S σ (xs.zip ds ++ ts) H F α) : Paired (VOk P w K F α) xs ds := by
  have : ∀ (xs : List V) (ds : List DV), xs.length = ds.length → (∀ p ∈ xs.zip ds, VOk P w K F α p.1 p.2) → Paired (VOk P w K F α) xs ds := by
    intro xs
    induction xs with
    | nil => intro ds hl _; cases ds with
      | nil => exact .nil
      | cons _ _ => simp at hl
    | cons x xs ih => intro ds hl hp; cases ds with
      | nil => simp at hl
      | cons d ds => exact .cons (hp (x, d) (by simp)) (ih ds (by simpa using hl) fun p hp' => hp p (by simp [hp']))
  exact this xs ds hl fun p hp => h.tm p (List.mem_append_left _ hp)
/-- a value that hangs on nothing -/
theorem vint {i : Int} : VOk P w K F α (.int i) (dI i) := Rp.int i
theorem vbl {b : Bool} : VOk P w K F α (.bl b) (dB b) := Rp.bl b
theorem vstr {x : Str} : VOk P w K F α (.str x) (dS x) := Rp.str x
theorem vnon : VOk P w K F α .non dN := Rp.non
theorem vok_int {i : Int} (h : VOk P w K F α v (dI i)) : v = .int i := by cases h; rfl
theorem vok_bl {b : Bool} (h : VOk P w K F α v (dB b)) : v = .bl b := by cases h; rfl
theorem vok_str {x : Str} (h : VOk P w K F α v (dS x)) : v = .str x := by cases h; rfl
theorem vok_non (h : VOk P w K F α v dN) : v = .non := by cases h; rfl
/-- a new tuple, a new list of what stands -/
theorem StAt.newTup {p : Addr} {ob : Obj} {xs : List V} {ps : List PyData} (h : StAt P w K B S σ ts H F α) (hp : H p = none) (ho : ob.dict = none) (hx : RpAll P w K F xs ps) :
    StAt P w K B S σ ((.ref p, .imm (.tuple ps)) :: ts) (upd H p (.frz ob (.tup xs))) (upd F p (.frz ob (.tup xs))) α :=
  (h.lay hp).add (Rp.tup ⟨ob, ho, upd_same⟩ (hx.up (Ex.new (by
    cases q : F p with
    | none => rfl
    | some u => have := h.fh p u q; rw [hp] at this; cases this))))
theorem StAt.newLst {p : Addr} {xs : List V} {ps : List PyData} (h : StAt P w K B S σ ts H F α) (hp : H p = none) (hx : RpAll P w K F xs ps) :
    StAt P w K B S σ ((.ref p, .imm (.list ps)) :: ts) (upd H p (.lst xs)) (upd F p (.lst xs)) α :=
  (h.lay hp).add (Rp.lst upd_same (hx.up (Ex.new (by
    cases q : F p with
    | none => rfl
    | some u => have := h.fh p u q; rw [hp] at this; cases this))))
theorem StAt.newCell {p : Addr} {xs : List V} {ds : List DV} (h : StAt P w K B S σ ts H F α) (hp : H p = none) (hx : Paired (VOk P w K F α) xs ds) :
    StAt P w K B (S.new (.lst ds)) σ ((.ref p, .cell S.μ.length) :: ts) (upd H p (.lst xs)) F (α ++ [p]) :=
  (h.cellNew (u := .lst ds) hp ⟨xs, upd_same, paired_up (fun _ _ q => q.up (Ex.refl _)) hx⟩).add ⟨p, by rw [← h.al, List.getElem?_append_right (Nat.le_refl _), Nat.sub_self]; rfl, rfl⟩
theorem imms {ds : List DV} {ps : List PyData} {xs : List V} (e : allImm ds = some ps) (h : Paired (VOk P w K F α) xs ds) : RpAll P w K F xs ps := by
  rw [allImm_eq e] at h
  exact imm_paired h

/-! ### the parts are sound -/
variable {ta tb : TE} {da db : DTE} {tt tu : TT} {dt du : DTT} {tr : TA} {dr : DTA}
theorem snd_var (i : Nat) : SndE P w K (tVar i) (dVar i) := fun B S σ ts H R Q h hd k => by
  unfold dVar at hd
  cases e : S.get i with
  | none => rw [e] at hd; exact hd.elim
  | some d =>
    rw [e] at hd
    obtain ⟨F, α, h⟩ := h
    obtain ⟨v, h1, h2⟩ := h.sl i d (get_slot e)
    exact ⟨v, h1, k v d S H hd (h.add h2).ok⟩
theorem snd_c {u : V} (hv : ∀ (F : Hp) (α : List Addr), VOk P w K F α u d) : SndE P w K (tC u) (dC d) := fun B S σ ts H R Q h hd k => k u d S H hd (h.add fun F α _ => hv F α)
theorem snd_op {r : R2} {g : D2} (ha : SndE P w K ta da) (hb : SndE P w K tb db) (hr : SndR P w K r g) : SndE P w K (tOp r ta tb) (dOp g da db) := fun B S σ ts H R Q h hd k =>
  ha B S σ ts H _ _ h hd fun x dx S1 H1 h1 o1 => hb B S1 σ _ H1 _ _ o1 h1 fun y dy S2 H2 h2 o2 => hr B S2 σ ts H2 x y dx dy R Q o2 h2 k
theorem snd_un {r : V → Hp → VK → Prop} {g : D1} (ha : SndE P w K ta da) (hr : SndU P w K r g) : SndE P w K (tUn r ta) (dUn g da) := fun B S σ ts H R Q h hd k =>
  ha B S σ ts H _ _ h hd fun x dx S1 H1 h1 o1 => hr B S1 σ ts H1 x dx R Q o1 h1 k
theorem bool_of {x : DV} {R : Bool → Prop} (h : match x with | .imm (.bool b) => R b | _ => False) : ∃ b, x = dB b ∧ R b := by
  cases x with
  | imm d => cases d with
    | bool b => exact ⟨b, rfl, h⟩
    | none => exact h.elim
    | int i => exact h.elim
    | str x => exact h.elim
    | list l => exact h.elim
    | tuple l => exact h.elim
    | dict l => exact h.elim
  | cell _ => exact h.elim
  | raw _ => exact h.elim
  | obj _ => exact h.elim
  | scr _ => exact h.elim
theorem snd_test (ha : SndE P w K ta da) : SndT P w K (tTest ta) (dTest da) := fun B S σ ts H R Q h hd k =>
  ha B S σ ts H _ _ h hd fun x dx S1 H1 h1 o1 => by
    obtain ⟨b, rfl, h2⟩ := bool_of (R := fun b => R b S1) h1
    obtain ⟨F, α, o1⟩ := o1
    exact ⟨b, vok_bl o1.top, k b S1 H1 h2 (o1.sub mem1).ok⟩
theorem snd_tB (ha : SndE P w K ta da) : SndT P w K (tB ta) (dTest da) := snd_test ha
theorem snd_and (ht : SndT P w K tt dt) (hu : SndT P w K tu du) : SndT P w K (tAnd tt tu) (dAnd dt du) := fun B S σ ts H R Q h hd k =>
  ht B S σ ts H _ _ h hd fun b S1 H1 h1 o1 => by
    cases b with
    | true => exact hu B S1 σ ts H1 R Q o1 h1 k
    | false => exact k false S1 H1 h1 o1
theorem snd_or (ht : SndT P w K tt dt) (hu : SndT P w K tu du) : SndT P w K (tOr tt tu) (dOr dt du) := fun B S σ ts H R Q h hd k =>
  ht B S σ ts H _ _ h hd fun b S1 H1 h1 o1 => by
    cases b with
    | false => exact hu B S1 σ ts H1 R Q o1 h1 k
    | true => exact k true S1 H1 h1 o1
theorem snd_not (ht : SndT P w K tt dt) : SndT P w K (tNot tt) (dNot dt) := fun B S σ ts H R Q h hd k =>
  ht B S σ ts H _ _ h hd fun b S1 H1 h1 o1 => k (!b) S1 H1 h1 o1
theorem snd_if (ht : SndT P w K tt dt) (ha : SndE P w K ta da) (hb : SndE P w K tb db) : SndE P w K (tIf tt ta tb) (dIf dt da db) := fun B S σ ts H R Q h hd k =>
  ht B S σ ts H _ _ h hd fun b S1 H1 h1 o1 => by
    cases b with
    | true => exact ha B S1 σ ts H1 R Q o1 h1 k
    | false => exact hb B S1 σ ts H1 R Q o1 h1 k
theorem snd_andV (ha : SndE P w K ta da) (hb : SndE P w K tb db) : SndE P w K (tAndV ta tb) (dAndV da db) := fun B S σ ts H R Q h hd k =>
  ha B S σ ts H _ _ h hd fun x dx S1 H1 h1 o1 => by
    obtain ⟨b, rfl, h2⟩ := bool_of (R := fun b => if b = true then db S1 R else R (dB false) S1) h1
    obtain ⟨F, α, o1⟩ := o1
    refine ⟨b, vok_bl o1.top, ?_⟩
    cases b with
    | true => exact hb B S1 σ ts H1 R Q (o1.sub mem1).ok h2 k
    | false => exact k _ _ S1 H1 h2 ((o1.sub mem1).add vbl).ok
theorem snd_orV (ha : SndE P w K ta da) (hb : SndE P w K tb db) : SndE P w K (tOrV ta tb) (dOrV da db) := fun B S σ ts H R Q h hd k =>
  ha B S σ ts H _ _ h hd fun x dx S1 H1 h1 o1 => by
    obtain ⟨b, rfl, h2⟩ := bool_of (R := fun b => if b = true then R (dB true) S1 else db S1 R) h1
    obtain ⟨F, α, o1⟩ := o1
    refine ⟨b, vok_bl o1.top, ?_⟩
    cases b with
    | false => exact hb B S1 σ ts H1 R Q (o1.sub mem1).ok h2 k
    | true => exact k _ _ S1 H1 h2 ((o1.sub mem1).add vbl).ok
theorem snd_notV (ha : SndE P w K ta da) : SndE P w K (tNotV ta) (dNotV da) := fun B S σ ts H R Q h hd k =>
  ha B S σ ts H _ _ h hd fun x dx S1 H1 h1 o1 => by
    obtain ⟨b, rfl, h2⟩ := bool_of (R := fun b => R (dB (!b)) S1) h1
    obtain ⟨F, α, o1⟩ := o1
    exact ⟨b, vok_bl o1.top, k _ _ S1 H1 h2 ((o1.sub mem1).add vbl).ok⟩
theorem snd_nil : SndA P w K tNil dNil := fun B S σ ts H R Q h hd k => k [] [] S H rfl hd h
theorem snd_cons (ha : SndE P w K ta da) (hr : SndA P w K tr dr) : SndA P w K (tCons ta tr) (dCons da dr) := fun B S σ ts H R Q h hd k =>
  ha B S σ ts H _ _ h hd fun x dx S1 H1 h1 o1 => hr B S1 σ _ H1 _ _ o1 h1 fun xs dxs S2 H2 hl h2 o2 =>
    k (x :: xs) (dx :: dxs) S2 H2 (by simp [hl]) h2 (o2.sub fun p hp => by
      rcases List.mem_append.mp hp with hp | hp
      · rcases List.mem_cons.mp (show p ∈ (x, dx) :: xs.zip dxs from hp) with e | hp
        · subst e; exact List.mem_append_right _ List.mem_cons_self
        · exact List.mem_append_left _ hp
      · exact List.mem_append_right _ (List.mem_cons_of_mem _ hp))
theorem snd_tup (hr : SndA P w K tr dr) : SndE P w K (tTupZ tr) (dTup dr) := fun B S σ ts H R Q h hd k =>
  hr B S σ ts H _ _ h hd fun xs ds S1 H1 hl h1 o1 => by
    obtain ⟨hz, h2⟩ := h1
    refine ⟨by rw [hl]; exact hz, fun p ob hp ho => ?_⟩
    cases e : allImm ds with
    | none => rw [e] at h2; exact h2.elim
    | some ps =>
      rw [e] at h2
      obtain ⟨F, α, o1⟩ := o1
      exact k _ _ S1 _ h2 ((o1.sub memA).newTup hp ho (imms e (o1.args hl))).ok
theorem snd_lst (hr : SndA P w K tr dr) : SndE P w K (tLst tr) (dLst dr) := fun B S σ ts H R Q h hd k =>
  hr B S σ ts H _ _ h hd fun xs ds S1 H1 hl h1 o1 => by
    obtain ⟨hz, h2⟩ := h1
    refine ⟨by rw [hl]; exact hz, fun p hp => ?_⟩
    cases e : allImm ds with
    | none => rw [e] at h2; exact h2.elim
    | some ps =>
      rw [e] at h2
      obtain ⟨F, α, o1⟩ := o1
      exact k _ _ S1 _ h2 ((o1.sub memA).newLst hp (imms e (o1.args hl))).ok
theorem snd_lstC (hr : SndA P w K tr dr) : SndE P w K (tLst tr) (dLstC dr) := fun B S σ ts H R Q h hd k =>
  hr B S σ ts H _ _ h hd fun xs ds S1 H1 hl h1 o1 => by
    obtain ⟨hz, h2⟩ := h1
    refine ⟨by rw [hl]; exact hz, fun p hp => ?_⟩
    obtain ⟨F, α, o1⟩ := o1
    exact k _ _ _ _ h2 ((o1.sub memA).newCell hp (o1.args hl)).ok
theorem snd_cb {r : List V → Hp → VK → Prop} {g : DC1} (hr : SndA P w K tr dr) (hg : SndC P w K r g) : SndE P w K (tCB r tr) (dCB g dr) := fun B S σ ts H R Q h hd k =>
  hr B S σ ts H _ _ h hd fun xs ds S1 H1 hl h1 o1 => hg B S1 σ ts H1 xs ds R Q hl o1 h1 k
end

/-! ### the rules -/
section
variable {X : Cx} {a b e : Expr} {es : List Expr} {da db : DTE} {dt du : DTT} {dr : DTA} {pos : Pos} {g : D2}
theorem dv (i : Nat) {x : Str} {pos : Pos} (hN : X.N[i]? = some x := by rfl) (hv : Vis X.env.scope x := by first | exact Or.inl rfl | exact Or.inr (Or.inl rfl) | exact Or.inr (Or.inr rfl)) (hd : (x == ("__debug__" : Str)) = false := by decide)
    (hcd : (x == ("__classdict__" : Str)) = false := by decide) : DE X (.Name x pos) (dVar i) := ⟨_, pv i hN hv hd hcd, snd_var i⟩
theorem de_int {i : Int} {j pos} : DE X (.Constant (.int i) j pos) (dC (dI i)) := ⟨_, pe_int, snd_c fun _ _ => vint⟩
theorem de_bl {b : Bool} {j pos} : DE X (.Constant (.bool b) j pos) (dC (dB b)) := ⟨_, pe_bl, snd_c fun _ _ => vbl⟩
theorem de_non {j pos} : DE X (.Constant .none j pos) (dC dN) := ⟨_, pe_non, snd_c fun _ _ => vnon⟩
theorem de_str {x : Str} {j pos} : DE X (.Constant (.str x) j pos) (dC (dS x)) := ⟨_, pe_str, snd_c fun _ _ => vstr⟩
/-- a constant of the module -/
theorem de_gint {x : Str} {i : Int} {u : Value} (hg : Gl X x) (hm : X.mg x = some u) (r : RelV (.int i) u) (hd : (x == ("__debug__" : Str)) = false := by decide) : DE X (.Name x pos) (dC (dI i)) := ⟨_, pe_glob hg hm r hd, snd_c fun _ _ => vint⟩
theorem de_gstr {x : Str} {z : Str} {u : Value} (hg : Gl X x) (hm : X.mg x = some u) (r : RelV (.str z) u) (hd : (x == ("__debug__" : Str)) = false := by decide) : DE X (.Name x pos) (dC (dS z)) := ⟨_, pe_glob hg hm r hd, snd_c fun _ _ => vstr⟩
theorem de_graw {x : Str} {v : V} {u : Value} (hg : Gl X x) (hm : X.mg x = some u) (r : RelV v u) (hd : (x == ("__debug__" : Str)) = false := by decide) : DE X (.Name x pos) (dC (.raw v)) := ⟨_, pe_glob hg hm r hd, snd_c fun _ _ => rfl⟩
theorem de_braw {x : Str} {v : V} {u : Value} (hg : Gl X x) (hm : X.mg x = none) (hv : bootBuiltins x = some u) (r : RelV v u) (hn : x ≠ "__name__" := by decide) (hd : (x == ("__debug__" : Str)) = false := by decide) : DE X (.Name x pos) (dC (.raw v)) := ⟨_, pe_bltn hg hm hv r hn hd, snd_c fun _ _ => rfl⟩
theorem de_op {op : Operator} (o : OpD X (binaryOp op) g) (ha : DE X a da) (hb : DE X b db) : DE X (.BinOp a op b pos) (dOp g da db) := by
  obtain ⟨r, o1, o2⟩ := o.ex
  obtain ⟨ta, a1, a2⟩ := ha.ex
  obtain ⟨tb, b1, b2⟩ := hb.ex
  exact ⟨_, pe_op o1 a1 b1, snd_op a2 b2 o2⟩
theorem de_un {op : UnaryOp} {g1 : D1} (o : UnD X (unaryOp op) g1) (ha : DE X a da) : DE X (.UnaryOp op a pos) (dUn g1 da) := by
  obtain ⟨r, o1, o2⟩ := o.ex
  obtain ⟨ta, a1, a2⟩ := ha.ex
  exact ⟨_, pe_un o1 a1, snd_un a2 o2⟩
theorem de_cmp {op : CmpOp} (o : OpD X (compareOp op) g) (ha : DE X a da) (hb : DE X b db) (hm : behindInMarks op b = false := by first | exact nobehind _ (by decide) (by decide) | rfl) : DE X (.Compare a [op] [b] pos) (dOp g da db) := by
  obtain ⟨r, o1, o2⟩ := o.ex
  obtain ⟨ta, a1, a2⟩ := ha.ex
  obtain ⟨tb, b1, b2⟩ := hb.ex
  exact ⟨_, pe_cmpR o1 a1 b1 hm, snd_op a2 b2 o2⟩
theorem dt_cmp {op : CmpOp} (o : OpD X (compareOp op) g) (ha : DE X a da) (hb : DE X b db) (hm : behindInMarks op b = false := by first | exact nobehind _ (by decide) (by decide) | rfl) : DT X (.Compare a [op] [b] pos) (dTest (dOp g da db)) := by
  obtain ⟨r, o1, o2⟩ := o.ex
  obtain ⟨ta, a1, a2⟩ := ha.ex
  obtain ⟨tb, b1, b2⟩ := hb.ex
  exact ⟨_, pt_cmpR o1 a1 b1 hm, snd_test (snd_op a2 b2 o2)⟩
/-- an expression that gives a bool, as a test -/
theorem dt_val (ha : DE X e da) (he : ∀ whole, isTrue e X.env whole = (do let v ← whole; standAt e.pos; holding [v] (truthy v)) := by intro _; rfl) : DT X e (dTest da) := by
  obtain ⟨ta, a1, a2⟩ := ha.ex
  exact ⟨_, pt_val a1 he, snd_tB a2⟩
theorem dw_and1 (ha : DT X a dt) : DW X (.BoolOp .And [a] pos) dt := by
  obtain ⟨ta, a1, a2⟩ := ha.ex
  exact ⟨_, pw_and1 a1, a2⟩
theorem dw_or1 (ha : DT X a dt) : DW X (.BoolOp .Or [a] pos) dt := by
  obtain ⟨ta, a1, a2⟩ := ha.ex
  exact ⟨_, pw_or1 a1, a2⟩
theorem dw_and {rest : List Expr} (ha : DT X a dt) (hb : DW X (.BoolOp .And (b :: rest) pos) du) : DW X (.BoolOp .And (a :: b :: rest) pos) (dAnd dt du) := by
  obtain ⟨ta, a1, a2⟩ := ha.ex
  obtain ⟨tb, b1, b2⟩ := hb.ex
  exact ⟨_, pw_and a1 b1, snd_and a2 b2⟩
theorem dw_or {rest : List Expr} (ha : DT X a dt) (hb : DW X (.BoolOp .Or (b :: rest) pos) du) : DW X (.BoolOp .Or (a :: b :: rest) pos) (dOr dt du) := by
  obtain ⟨ta, a1, a2⟩ := ha.ex
  obtain ⟨tb, b1, b2⟩ := hb.ex
  exact ⟨_, pw_or a1 b1, snd_or a2 b2⟩
theorem DW.t (h : DW X e dt) : DT X e dt := by
  obtain ⟨t, a1, a2⟩ := h.ex
  exact ⟨_, a1.pt, a2⟩
theorem dt_not (ha : DT X a dt) : DT X (.UnaryOp .Not a pos) (dNot dt) := by
  obtain ⟨t, a1, a2⟩ := ha.ex
  exact ⟨_, pt_not a1, snd_not a2⟩
theorem de_one {op} (ha : DE X a da) : DE X (.BoolOp op [a] pos) da := by
  obtain ⟨t, a1, a2⟩ := ha.ex
  exact ⟨_, pe_one a1, a2⟩
theorem de_and {rest : List Expr} (ha : DE X a da) (hb : DE X (.BoolOp .And (b :: rest) pos) db) : DE X (.BoolOp .And (a :: b :: rest) pos) (dAndV da db) := by
  obtain ⟨ta, a1, a2⟩ := ha.ex
  obtain ⟨tb, b1, b2⟩ := hb.ex
  exact ⟨_, pe_and a1 b1, snd_andV a2 b2⟩
theorem de_or {rest : List Expr} (ha : DE X a da) (hb : DE X (.BoolOp .Or (b :: rest) pos) db) : DE X (.BoolOp .Or (a :: b :: rest) pos) (dOrV da db) := by
  obtain ⟨ta, a1, a2⟩ := ha.ex
  obtain ⟨tb, b1, b2⟩ := hb.ex
  exact ⟨_, pe_or a1 b1, snd_orV a2 b2⟩
theorem de_not (ha : DE X a da) : DE X (.UnaryOp .Not a pos) (dNotV da) := by
  obtain ⟨ta, a1, a2⟩ := ha.ex
  exact ⟨_, pe_not a1, snd_notV a2⟩
theorem de_if {c : Expr} (hc : DT X c dt) (ha : DE X a da) (hb : DE X b db) : DE X (.IfExp c a b pos) (dIf dt da db) := by
  obtain ⟨tc, c1, c2⟩ := hc.ex
  obtain ⟨ta, a1, a2⟩ := ha.ex
  obtain ⟨tb, b1, b2⟩ := hb.ex
  exact ⟨_, pe_ifExp c1 a1 b1, snd_if c2 a2 b2⟩
theorem da_nil : DA X [] dNil := ⟨_, pa_nil, snd_nil⟩
theorem da_cons (ha : DE X e da) (hr : DA X es dr) (hs : starEach (e :: es) X.env = (false, eval e X.env) :: starEach es X.env := by rfl) : DA X (e :: es) (dCons da dr) := by
  obtain ⟨ta, a1, a2⟩ := ha.ex
  obtain ⟨tr, b1, b2⟩ := hr.ex
  exact ⟨_, pa_cons a1 b1 hs, snd_cons a2 b2⟩
theorem de_tup {x1} (h : DA X es dr) : DE X (.Tuple es x1 pos) (dTup dr) := by
  obtain ⟨t, a1, a2⟩ := h.ex
  exact ⟨_, pe_tupZ a1, snd_tup a2⟩
theorem de_lst (h : DA X es dr) : DE X (.List es pos) (dLst dr) := by
  obtain ⟨t, a1, a2⟩ := h.ex
  exact ⟨_, pe_lst a1, snd_lst a2⟩
theorem de_lstC (h : DA X es dr) : DE X (.List es pos) (dLstC dr) := by
  obtain ⟨t, a1, a2⟩ := h.ex
  exact ⟨_, pe_lst a1, snd_lstC a2⟩
/-- f(e, ..), f a built-in function; a built-in class -/
theorem de_cb {id : String} {x : Str} {p : Pos} {gc : DC1} (hc : CallD X (.builtin id) gc) (hg : Gl X x) (hm : X.mg x = none) (hv : bootBuiltins x = some (.builtin id)) (ha : DA X (e :: es) dr) (hn : x ≠ "__name__" := by decide) (hdb : (x == ("__debug__" : Str)) = false := by decide)
    (he : starEach (e :: es) X.env = (false, eval e X.env) :: starEach es X.env := by rfl) (hpl : (backTo pos (starEach es X.env)).any (·.1) = false := by rfl) : DE X (.Call (.Name x p) (e :: es) [] pos) (dCB gc dr) := by
  obtain ⟨r, c1, c2⟩ := hc.ex
  obtain ⟨ta, a1, a2⟩ := ha.ex
  exact ⟨_, pe_callB c1 hg hm hv a1 hn hdb he hpl, snd_cb a2 c2⟩
theorem de_ct {T : String} {x : Str} {p : Pos} {gc : DC1} (hc : CallD X (.type T) gc) (hg : Gl X x) (hm : X.mg x = none) (hv : bootBuiltins x = some (.type T)) (ha : DA X (e :: es) dr) (hn : x ≠ "__name__" := by decide) (hdb : (x == ("__debug__" : Str)) = false := by decide)
    (he : starEach (e :: es) X.env = (false, eval e X.env) :: starEach es X.env := by rfl) (hpl : (backTo pos (starEach es X.env)).any (·.1) = false := by rfl) : DE X (.Call (.Name x p) (e :: es) [] pos) (dCB gc dr) := by
  obtain ⟨r, c1, c2⟩ := hc.ex
  obtain ⟨ta, a1, a2⟩ := ha.ex
  exact ⟨_, pe_callTy c1 hg hm hv a1 hn hdb he hpl, snd_cb a2 c2⟩
end
end DL

set_option Elab.async false
set_option linter.all false
set_option maxRecDepth 100000
set_option autoImplicit false
set_option maxHeartbeats 1000000
namespace DL
open PySem PySem.Spec L2

/-! ## what a reading is -/
def DV.int? : DV → Option Int
  | .imm (.int i) => some i
  | _ => none
def DV.str? : DV → Option Str
  | .imm (.str i) => some i
  | _ => none
def DV.tup? : DV → Option (List PyData)
  | .imm (.tuple i) => some i
  | _ => none
def DV.imm? : DV → Option PyData
  | .imm d => some d
  | _ => none
theorem int?_eq {x : DV} {i : Int} (h : x.int? = some i) : x = dI i := by
  cases x with
  | imm d => cases d <;> first | (cases h; rfl) | cases h
  | _ => cases h
theorem str?_eq {x : DV} {i : Str} (h : x.str? = some i) : x = dS i := by
  cases x with
  | imm d => cases d <;> first | (cases h; rfl) | cases h
  | _ => cases h
theorem tup?_eq {x : DV} {i : List PyData} (h : x.tup? = some i) : x = .imm (.tuple i) := by
  cases x with
  | imm d => cases d <;> first | (cases h; rfl) | cases h
  | _ => cases h
theorem imm?_eq {x : DV} {i : PyData} (h : x.imm? = some i) : x = .imm i := by
  cases x with
  | imm d => cases h; rfl
  | _ => cases h
def MulOk (i j : Int) : Prop := CMul i j ∨ CMulW i j
def DivOk (_ j : Int) : Prop := 0 < j ∧ j.natAbs.log2 < 9000
def PowOk (i j : Int) : Prop := 0 ≤ j ∧ (Builtin.Int.intBits i : Int) * j ≤ 2 ^ 27

/-! ### the data side of the operators -/
def gII (C : Int → Int → Prop) (f : Int → Int → DV) : D2 := fun x y S R => match x.int?, y.int? with
  | some i, some j => C i j ∧ R (f i j) S
  | _, _ => False
def gAdd : D2 := fun x y S R => match x.int?, y.int? with
  | some i, some j => R (dI (i + j)) S
  | _, _ => match x.str?, y.str? with
    | some a, some b => a.length + b.length ≤ sizeLine ∧ R (dS (a ++ b)) S
    | _, _ => match x.tup?, y.tup? with
      | some a, some b => a.length + b.length ≤ sizeLine ∧ R (.imm (.tuple (a ++ b))) S
      | _, _ => match S.lst x, S.lst y with
        | some a, some b => a.length + b.length ≤ sizeLine ∧ match allImm (a ++ b) with
          | some ps => R (.imm (.list ps)) S
          | none => False
        | _, _ => False
/-- list + list that becomes a cell -/
def gAddC : D2 := fun x y S R => match S.lst x, S.lst y with
  | some a, some b => a.length + b.length ≤ sizeLine ∧ R (.cell S.μ.length) (S.new (.lst (a ++ b)))
  | _, _ => False
def gSub : D2 := fun x y S R => match x.int?, y.int? with
  | some i, some j => R (dI (i - j)) S
  | _, _ => False
def gCmp (f : Int → Int → Bool) : D2 := fun x y S R => match x.int?, y.int? with
  | some i, some j => R (dB (f i j)) S
  | _, _ => False
def gEq : D2 := fun x y S R => match x.imm?, y.imm? with
  | some d, some e => (SeqAt.shaped d && SeqAt.shaped e) = true ∧ R (dB (PyData.eqv d e)) S
  | _, _ => False
def gNe : D2 := fun x y S R => match x.imm?, y.imm? with
  | some d, some e => (SeqAt.shaped d && SeqAt.shaped e) = true ∧ R (dB (!PyData.eqv d e)) S
  | _, _ => False
def isNone : DV → Option Bool
  | .imm .none => some true
  | .imm _ => some false
  | .cell _ => some false
  | .obj _ => some false
  | .scr _ => some false
  | .raw v => some (decide (v = .non))
def gIsN : D2 := fun x y S R => match y with
  | .imm .none => match isNone x with
    | some b => R (dB b) S
    | none => False
  | _ => False
def gNotN : D2 := fun x y S R => match y with
  | .imm .none => match isNone x with
    | some b => R (dB (!b)) S
    | none => False
  | _ => False
def flatD : PyData → Bool
  | .none => true
  | .bool _ => true
  | .int _ => true
  | .str _ => true
  | _ => false
def inD (d : PyData) (ps : List PyData) : Bool := ps.any fun e => PyData.eqv e d
/-- x in a list or tuple -/
def gIn (neg : Bool) : D2 := fun x y S R => match x.imm?, S.seq y with
  | some d, some (b, ds) => match allImm ds with
    | some ps => ((flatD d && ps.all flatD) = true ∨ (b = true ∧ (SeqAt.shaped d && SeqAt.shaped (.list ps)) = true)) ∧ R (dB (if neg = true then !inD d ps else inD d ps)) S
    | none => False
  | _, _ => False

section
variable {P : Program} {w : World} {K : PySem.W.Frag} {B : Bs} {S S' : DSt} {σ : St} {ts : List (V × DV)} {H F F' : Hp} {α : List Addr} {v : V} {d : DV}
theorem snd_II {C : Int → Int → Prop} {f : Int → Int → DV} {fv : Int → Int → V} (hf : ∀ i j (F : Hp) (α : List Addr), VOk P w K F α (fv i j) (f i j)) : SndR P w K (rI C fv) (gII C f) := fun B S σ ts H x y dx dy R Q h hd k => by
  obtain ⟨F, α, h⟩ := h
  unfold gII at hd
  cases e1 : dx.int? with
  | none => rw [e1] at hd; exact hd.elim
  | some i =>
    cases e2 : dy.int? with
    | none => rw [e1, e2] at hd; exact hd.elim
    | some j =>
      rw [e1, e2] at hd
      rw [int?_eq e1] at h
      rw [int?_eq e2] at h
      exact ⟨i, j, vok_int h.top2, vok_int h.top, hd.1, k _ _ S H hd.2 ((h.sub mem2).add (hf i j F α)).ok⟩
theorem rI0_I {g : Int → Int → V} {x y : V} {H : Hp} {Q : VK} (h : rI (fun _ _ => True) g x y H Q) : rI0 g x y H Q := by
  obtain ⟨i, j, e1, e2, _, q⟩ := h
  exact ⟨i, j, e1, e2, q⟩
theorem snd_cmp {f : Int → Int → Bool} : SndR P w K (rI0 fun i j => .bl (f i j)) (gCmp f) := fun B S σ ts H x y dx dy R Q h hd k => by
  obtain ⟨F, α, h⟩ := h
  unfold gCmp at hd
  cases e1 : dx.int? with
  | none => rw [e1] at hd; exact hd.elim
  | some i =>
    cases e2 : dy.int? with
    | none => rw [e1, e2] at hd; exact hd.elim
    | some j =>
      rw [e1, e2] at hd
      rw [int?_eq e1, int?_eq e2] at h
      exact ⟨i, j, vok_int h.top2, vok_int h.top, k _ _ S H hd ((h.sub mem2).add vbl).ok⟩
mutual
theorem dp_lay (e : Ex F H) : ∀ (d : PyData) {v : V}, d.canLay0 = true → Rp P w K F v d → Dp K H v d
  | .none, _, _, r => by cases r; exact .non
  | .bool b, _, _, r => by cases r; exact .bl b
  | .int i, _, _, r => by cases r; exact .int i
  | .str x, _, _, r => by cases r; exact .str x
  | .list xs, _, hc, r => by
    cases r with
    | lst h1 h2 => exact .lst (SqL.of (e _ _ h1)) (dp_layAll e xs (by simpa only [PyData.canLay0] using hc) h2)
  | .tuple xs, _, hc, r => by
    cases r with
    | tup h1 h2 => exact .tup (h1.up e).t (dp_layAll e xs (by simpa only [PyData.canLay0] using hc) h2)
  | .dict kvs, _, hc, _ => absurd (show PyData.canLay0 (.dict kvs) = true from hc) (by simp [PyData.canLay0])
theorem dp_layAll (e : Ex F H) : ∀ (ds : List PyData) {vs : List V}, PyData.canLayAll0 ds = true → RpAll P w K F vs ds → DpAll K H vs ds
  | [], _, _, r => by cases r; exact .nil
  | d :: ds, _, hc, r => by
    cases r with
    | cons h1 h2 =>
      simp only [PyData.canLayAll0, Bool.and_eq_true] at hc
      exact .cons (dp_lay e d hc.1 h1) (dp_layAll e ds hc.2 h2)
end
theorem dp_of {d : PyData} {v : V} (hs : SeqAt.shaped d = true) (r : Rp P w K F v d) (e : Ex F H) : Dp K H v d := dp_lay e d (SeqAt.canLay_of_shaped hs) r
theorem snd_eqD : SndR P w K (rEqD K) gEq := fun B S σ ts H x y dx dy R Q h hd k => by
  obtain ⟨F, α, h⟩ := h
  unfold gEq at hd
  cases e1 : dx.imm? with
  | none => rw [e1] at hd; exact hd.elim
  | some i =>
    cases e2 : dy.imm? with
    | none => rw [e1, e2] at hd; exact hd.elim
    | some j =>
      rw [e1, e2] at hd
      rw [imm?_eq e1, imm?_eq e2] at h
      obtain ⟨s1, s2⟩ := Bool.and_eq_true_iff.mp hd.1
      exact ⟨i, j, dp_of s1 h.top2 h.fh, dp_of s2 h.top h.fh, s1, s2, k _ _ S H hd.2 ((h.sub mem2).add vbl).ok⟩
theorem snd_neD : SndR P w K (rNeD K) gNe := fun B S σ ts H x y dx dy R Q h hd k => by
  obtain ⟨F, α, h⟩ := h
  unfold gNe at hd
  cases e1 : dx.imm? with
  | none => rw [e1] at hd; exact hd.elim
  | some i =>
    cases e2 : dy.imm? with
    | none => rw [e1, e2] at hd; exact hd.elim
    | some j =>
      rw [e1, e2] at hd
      rw [imm?_eq e1, imm?_eq e2] at h
      obtain ⟨s1, s2⟩ := Bool.and_eq_true_iff.mp hd.1
      exact ⟨i, j, dp_of s1 h.top2 h.fh, dp_of s2 h.top h.fh, s1, s2, k _ _ S H hd.2 ((h.sub mem2).add vbl).ok⟩
theorem isNone_ok {x : V} {dx : DV} {b : Bool} (h : VOk P w K F α x dx) (e : isNone dx = some b) : decide (x = .non) = b := by
  cases dx with
  | imm d =>
    cases d with
    | none => cases h; cases e; exact decide_eq_true rfl
    | bool _ => cases h; cases e; exact decide_eq_false (fun z => by cases z)
    | int _ => cases h; cases e; exact decide_eq_false (fun z => by cases z)
    | str _ => cases h; cases e; exact decide_eq_false (fun z => by cases z)
    | list _ => cases h; cases e; exact decide_eq_false (fun z => by cases z)
    | tuple _ => cases h; cases e; exact decide_eq_false (fun z => by cases z)
    | dict _ => cases h; cases e; exact decide_eq_false (fun z => by cases z)
  | cell _ => obtain ⟨a, _, rfl⟩ := h; cases e; exact decide_eq_false (fun z => by cases z)
  | obj _ => obtain ⟨a, rfl, _⟩ := h; cases e; exact decide_eq_false (fun z => by cases z)
  | scr _ => obtain ⟨a, rfl, _⟩ := h; cases e; exact decide_eq_false (fun z => by cases z)
  | raw u => cases h; cases e; rfl
theorem none_of {y : DV} {R : Prop} (h : match y with | .imm .none => R | _ => False) : y = dN ∧ R := by
  cases y with
  | imm d => cases d <;> first | exact ⟨rfl, h⟩ | exact h.elim
  | _ => exact h.elim
theorem snd_isN : SndR P w K (fun x y H Q => y = .non ∧ Q (.bl (decide (x = .non))) H) gIsN := fun B S σ ts H x y dx dy R Q h hd k => by
  obtain ⟨F, α, h⟩ := h
  obtain ⟨rfl, h2⟩ := none_of (R := match isNone dx with | some b => R (dB b) S | none => False) hd
  cases e : isNone dx with
  | none => rw [e] at h2; exact h2.elim
  | some b =>
    rw [e] at h2
    refine ⟨vok_non h.top, ?_⟩
    rw [isNone_ok h.top2 e]
    exact k _ _ S H h2 ((h.sub mem2).add vbl).ok
theorem snd_notN : SndR P w K (fun x y H Q => y = .non ∧ Q (.bl (!decide (x = .non))) H) gNotN := fun B S σ ts H x y dx dy R Q h hd k => by
  obtain ⟨F, α, h⟩ := h
  obtain ⟨rfl, h2⟩ := none_of (R := match isNone dx with | some b => R (dB (!b)) S | none => False) hd
  cases e : isNone dx with
  | none => rw [e] at h2; exact h2.elim
  | some b =>
    rw [e] at h2
    refine ⟨vok_non h.top, ?_⟩
    rw [isNone_ok h.top2 e]
    exact k _ _ S H h2 ((h.sub mem2).add vbl).ok
theorem flat_ok {x : V} {d : PyData} (h : Rp P w K F x d) (hf : flatD d = true) : flatV x = true := by
  cases h <;> first | rfl | (exact absurd hf Bool.false_ne_true)
theorem eqV_ok {x y : V} {d e : PyData} (h : Rp P w K F x d) (g : Rp P w K F y e) (hf : flatD d = true) (hg : flatD e = true) : eqV x y = PyData.eqv d e := by
  cases h <;> first
    | (exact absurd hf Bool.false_ne_true)
    | (cases g <;> first | (exact absurd hg Bool.false_ne_true) | rfl | simp [eqV, PyData.eqv])
theorem flats_ok : ∀ {xs : List V} {ps : List PyData}, RpAll P w K F xs ps → ps.all flatD = true → xs.all flatV = true
  | _, _, .nil, _ => rfl
  | _, _, .cons h r, e => by
    rw [List.all_cons, Bool.and_eq_true] at e
    rw [List.all_cons, Bool.and_eq_true]
    exact ⟨flat_ok h e.1, flats_ok r e.2⟩
theorem inV_ok {x : V} {d : PyData} (h : Rp P w K F x d) (hf : flatD d = true) : ∀ {xs : List V} {ps : List PyData}, RpAll P w K F xs ps → ps.all flatD = true → inV x xs = inD d ps
  | _, _, .nil, _ => rfl
  | _, _, .cons g r, e => by
    rw [List.all_cons, Bool.and_eq_true] at e
    have ih := inV_ok h hf r e.2
    unfold inV at ih ⊢
    unfold inD at ih ⊢
    rw [List.any_cons, List.any_cons, ih, eqV_ok g h e.1 hf]
theorem snd_in (neg : Bool) : SndR P w K (fun x y H Q => rIn K neg x y H Q ∨ (if neg = true then rNotInD K x y H Q else rInD K x y H Q)) (gIn neg) := fun B S σ ts H x y dx dy R Q h hd k => by
  obtain ⟨F, α, h⟩ := h
  unfold gIn at hd
  cases e1 : dx.imm? with
  | none => rw [e1] at hd; exact hd.elim
  | some d =>
    cases e2 : S.seq dy with
    | none => rw [e1, e2] at hd; exact hd.elim
    | some p =>
      obtain ⟨b, ds⟩ := p
      rw [e1, e2] at hd
      dsimp only at hd
      cases e3 : allImm ds with
      | none => rw [e3] at hd; exact hd.elim
      | some ps =>
        rw [e3] at hd
        obtain ⟨hc, hd⟩ := hd
        have hx : Rp P w K F x d := by
          have := h.top2
          rw [imm?_eq e1] at this
          exact this
        obtain ⟨a, xs, rfl, hq, hp⟩ := h.seq h.top e2
        have hr := imms e3 hp
        have kk : Q (.bl (if neg = true then !inD d ps else inD d ps)) H := k _ _ S H hd ((h.sub mem2).add vbl).ok
        by_cases hfl : (flatD d && ps.all flatD) = true
        · obtain ⟨f1, f2⟩ := Bool.and_eq_true_iff.mp hfl
          refine .inl ⟨a, xs, rfl, ?_, flat_ok hx f1, flats_ok hr f2, ?_⟩
          · cases b with
            | true => exact .inl hq
            | false => exact .inr hq
          · rw [inV_ok hx f1 hr f2]; exact kk
        · rcases hc with hc | ⟨rfl, hc⟩
          · exact absurd hc hfl
          · obtain ⟨s1, s2⟩ := Bool.and_eq_true_iff.mp hc
            have dd : Dp K H (.ref a) (.list ps) := .lst hq (dp_layAll h.fh ps (by have := SeqAt.canLay_of_shaped s2; simpa only [PyData.canLay0] using this) hr)
            refine .inr ?_
            cases neg with
            | true => exact ⟨d, ps, dp_of s1 hx h.fh, dd, s1, s2, kk⟩
            | false => exact ⟨d, ps, dp_of s1 hx h.fh, dd, s1, s2, kk⟩
end
end DL

set_option Elab.async false
set_option linter.all false
set_option maxRecDepth 100000
set_option autoImplicit false
set_option maxHeartbeats 1000000
namespace DL
open PySem PySem.Spec L2

/-! ## operators, ready -/
section
variable {P : Program} {w : World} {K : PySem.W.Frag} {B : Bs} {S S' : DSt} {σ : L2.St} {ts : List (V × DV)} {H F F' : Hp} {α : List Addr} {v : V} {d : DV}
theorem rp_tup {xs : V} {ps : List PyData} (h : VOk P w K F α xs (.imm (.tuple ps))) : ∃ a ys, xs = .ref a ∧ TupZ F a ys ∧ RpAll P w K F ys ps := by
  cases h with
  | tup h1 h2 => exact ⟨_, _, rfl, h1, h2⟩
theorem RpAll.app {xs ys : List V} {ps qs : List PyData} (h : RpAll P w K F xs ps) (g : RpAll P w K F ys qs) : RpAll P w K F (xs ++ ys) (ps ++ qs) := by
  induction xs generalizing ps with
  | nil => cases h; exact g
  | cons x xs ih => cases h with
    | cons h1 h2 => exact .cons h1 (ih h2)
theorem RpAll.take {xs : List V} {ps : List PyData} (h : RpAll P w K F xs ps) (n : Nat) : RpAll P w K F (xs.take n) (ps.take n) := by
  have := Paired.take' n (paired_imm (α := []) h)
  rw [← List.map_take] at this
  exact imm_paired this
theorem RpAll.drop {xs : List V} {ps : List PyData} (h : RpAll P w K F xs ps) (n : Nat) : RpAll P w K F (xs.drop n) (ps.drop n) := by
  have := Paired.drop' n (paired_imm (α := []) h)
  rw [← List.map_drop] at this
  exact imm_paired this
theorem RpAll.rev {xs : List V} {ps : List PyData} (h : RpAll P w K F xs ps) : RpAll P w K F xs.reverse ps.reverse := by
  have := Paired.rev' (paired_imm (α := []) h)
  rw [← List.map_reverse] at this
  exact imm_paired this
theorem StAt.freeF {p : Addr} (h : StAt P w K B S σ ts H F α) (hp : H p = none) : F p = none := by
  cases q : F p with
  | none => rfl
  | some u => have := h.fh p u q; rw [hp] at this; cases this
theorem snd_add : SndR P w K (fun x y H Q => rI0 (fun i j => .int (i + j)) x y H Q ∨ (∃ i j, x = V.str i ∧ y = V.str j ∧ i.length + j.length ≤ sizeLine ∧ Q (.str (i ++ j)) H) ∨ rCatZ K x y H Q ∨ rCat x y H Q) gAdd := fun B S σ ts H x y dx dy R Q h hd k => by
  obtain ⟨F, α, h⟩ := h
  unfold gAdd at hd
  split at hd
  · rename_i i j e1 e2
    rw [int?_eq e1, int?_eq e2] at h
    exact .inl ⟨i, j, vok_int h.top2, vok_int h.top, k _ _ S H hd ((h.sub mem2).add vint).ok⟩
  · split at hd
    · rename_i a b e1 e2
      rw [str?_eq e1, str?_eq e2] at h
      exact .inr (.inl ⟨a, b, vok_str h.top2, vok_str h.top, hd.1, k _ _ S H hd.2 ((h.sub mem2).add vstr).ok⟩)
    · split at hd
      · rename_i a b e1 e2
        rw [tup?_eq e1, tup?_eq e2] at h
        obtain ⟨p, xs, rfl, tx, rx⟩ := rp_tup h.top2
        obtain ⟨q, ys, rfl, ty, ry⟩ := rp_tup h.top
        obtain ⟨hz, hd⟩ := hd
        refine .inr (.inr (.inl ⟨p, q, xs, ys, rfl, rfl, (tx.up h.fh).t, (ty.up h.fh).t, by rw [rx.length, ry.length]; exact hz, fun e => ?_, fun e => ?_, fun r ob hr ho => ?_⟩))
        · subst e
          cases rx
          exact k _ _ S H hd ((h.sub mem2).add (v := .ref q) (d := .imm (.tuple b)) (Rp.tup ty ry)).ok
        · subst e
          cases ry
          rw [List.append_nil] at hd
          exact k _ _ S H hd ((h.sub mem2).add (v := .ref p) (d := .imm (.tuple a)) (Rp.tup tx rx)).ok
        · exact k _ _ S _ hd ((h.sub mem2).newTup hr ho (rx.app ry)).ok
      · split at hd
        · rename_i a b e1 e2
          obtain ⟨hz, hd⟩ := hd
          obtain ⟨p, xs, rfl, tx, rx⟩ := h.lst h.top2 e1
          obtain ⟨q, ys, rfl, ty, ry⟩ := h.lst h.top e2
          refine .inr (.inr (.inr ⟨p, q, xs, ys, rfl, rfl, tx, ty, by rw [Paired.length rx, Paired.length ry]; exact hz, fun r hr => ?_⟩))
          cases e3 : allImm (a ++ b) with
          | none => rw [e3] at hd; exact hd.elim
          | some ps =>
            rw [e3] at hd
            exact k _ _ S _ hd ((h.sub mem2).newLst hr (imms e3 (Paired.app' rx ry))).ok
        · exact hd.elim
theorem snd_addC : SndR P w K rCat gAddC := fun B S σ ts H x y dx dy R Q h hd k => by
  obtain ⟨F, α, h⟩ := h
  unfold gAddC at hd
  split at hd
  · rename_i a b e1 e2
    obtain ⟨hz, hd⟩ := hd
    obtain ⟨p, xs, rfl, tx, rx⟩ := h.lst h.top2 e1
    obtain ⟨q, ys, rfl, ty, ry⟩ := h.lst h.top e2
    exact ⟨p, q, xs, ys, rfl, rfl, tx, ty, by rw [Paired.length rx, Paired.length ry]; exact hz, fun r hr => k _ _ _ _ hd ((h.sub mem2).newCell hr (Paired.app' rx ry)).ok⟩
  · exact hd.elim
theorem snd_sub : SndR P w K (rI0 fun i j => .int (i - j)) gSub := fun B S σ ts H x y dx dy R Q h hd k => by
  obtain ⟨F, α, h⟩ := h
  unfold gSub at hd
  split at hd
  · rename_i i j e1 e2
    rw [int?_eq e1, int?_eq e2] at h
    exact ⟨i, j, vok_int h.top2, vok_int h.top, k _ _ S H hd ((h.sub mem2).add vint).ok⟩
  · exact hd.elim
/-- i * j; [..] * j -/
def gMul : D2 := fun x y S R => match x.int?, y.int? with
  | some i, some j => MulOk i j ∧ R (dI (i * j)) S
  | _, _ => match S.lst x, y.int? with
    | some a, some j => (0 ≤ j ∧ j < 2 ^ 63 ∧ a.length * j.toNat ≤ sizeLine) ∧ match allImm a with
      | some ps => R (.imm (.list (List.replicate j.toNat ps).flatten)) S
      | none => False
    | _, _ => False
theorem RpAll.rep {xs : List V} {ps : List PyData} (h : RpAll P w K F xs ps) : ∀ n : Nat, RpAll P w K F (List.replicate n xs).flatten (List.replicate n ps).flatten
  | 0 => .nil
  | n + 1 => by
    rw [List.replicate_succ, List.replicate_succ, List.flatten_cons, List.flatten_cons]
    exact h.app (RpAll.rep h n)
theorem snd_mul : SndR P w K (fun x y H Q => (rI CMul (fun i j => .int (i * j)) x y H Q ∨ rI CMulW (fun i j => .int (i * j)) x y H Q) ∨ rRep x y H Q) gMul := fun B S σ ts H x y dx dy R Q h hd k => by
  obtain ⟨F, α, h⟩ := h
  unfold gMul at hd
  split at hd
  · rename_i i j e1 e2
    rw [int?_eq e1, int?_eq e2] at h
    rcases hd.1 with c | c
    · exact .inl (.inl ⟨i, j, vok_int h.top2, vok_int h.top, c, k _ _ S H hd.2 ((h.sub mem2).add vint).ok⟩)
    · exact .inl (.inr ⟨i, j, vok_int h.top2, vok_int h.top, c, k _ _ S H hd.2 ((h.sub mem2).add vint).ok⟩)
  · split at hd
    · rename_i a j e1 e2
      obtain ⟨⟨h0, h1, h2⟩, hd⟩ := hd
      rw [int?_eq e2] at h
      obtain ⟨p, xs, rfl, tx, rx⟩ := h.lst h.top2 e1
      refine .inr ⟨p, j, xs, rfl, vok_int h.top, tx, by omega, h1, by rw [Paired.length rx]; exact h2, fun r hr => ?_⟩
      cases e3 : allImm a with
      | none => rw [e3] at hd; exact hd.elim
      | some ps =>
        rw [e3] at hd
        exact k _ _ S _ hd ((h.sub mem2).newLst hr ((imms e3 rx).rep _)).ok
    · exact hd.elim
/-- [..] * j that becomes a cell -/
def gMulC : D2 := fun x y S R => match S.lst x, y.int? with
  | some a, some j => (0 ≤ j ∧ j < 2 ^ 63 ∧ a.length * j.toNat ≤ sizeLine) ∧ match allImm a with
    | some ps => R (.cell S.μ.length) (S.new (.lst ((List.replicate j.toNat ps).flatten.map DV.imm)))
    | none => False
  | _, _ => False
theorem snd_mulC : SndR P w K rRep gMulC := fun B S σ ts H x y dx dy R Q h hd k => by
  obtain ⟨F, α, h⟩ := h
  unfold gMulC at hd
  split at hd
  · rename_i a j e1 e2
    obtain ⟨⟨h0, h1, h2⟩, hd⟩ := hd
    rw [int?_eq e2] at h
    obtain ⟨p, xs, rfl, tx, rx⟩ := h.lst h.top2 e1
    refine ⟨p, j, xs, rfl, vok_int h.top, tx, by omega, h1, by rw [Paired.length rx]; exact h2, fun r hr => ?_⟩
    cases e3 : allImm a with
    | none => rw [e3] at hd; exact hd.elim
    | some ps =>
      rw [e3] at hd
      exact k _ _ _ _ hd ((h.sub mem2).newCell hr (paired_imm ((imms e3 rx).rep _))).ok
  · exact hd.elim
end
def gFdiv : D2 := gII DivOk fun i j => dI (i / j)
def gMod : D2 := gII (fun _ j => 0 < j) fun i j => dI (i % j)
def gPow : D2 := gII PowOk fun i j => dI (i ^ j.toNat)
section
variable {X : Cx}
theorem od_add : OpD X (binaryOp .Add) gAdd := ⟨_, .or op_add (.or op_add_str (.or op_catZ op_cat)), snd_add⟩
theorem od_addC : OpD X (binaryOp .Add) gAddC := ⟨_, op_cat, snd_addC⟩
theorem od_sub : OpD X (binaryOp .Sub) gSub := ⟨_, op_sub, snd_sub⟩
theorem od_mul : OpD X (binaryOp .Mult) gMul := ⟨_, .or (.or op_mul op_mulW) op_rep, snd_mul⟩
theorem od_mulC : OpD X (binaryOp .Mult) gMulC := ⟨_, op_rep, snd_mulC⟩
theorem od_fdiv : OpD X (binaryOp .FloorDiv) gFdiv := ⟨_, op_fdivW, snd_II fun _ _ _ _ => vint⟩
theorem od_mod : OpD X (binaryOp .Mod) gMod := ⟨_, op_mod, snd_II fun _ _ _ _ => vint⟩
theorem od_pow : OpD X (binaryOp .Pow) gPow := ⟨_, op_powW, snd_II fun _ _ _ _ => vint⟩
theorem od_lt : OpD X (compareOp .Lt) (gCmp fun i j => decide (i < j)) := ⟨_, op_lt, snd_cmp⟩
theorem od_le : OpD X (compareOp .LtE) (gCmp fun i j => decide (i ≤ j)) := ⟨_, op_le, snd_cmp⟩
theorem od_gt : OpD X (compareOp .Gt) (gCmp fun i j => decide (j < i)) := ⟨_, op_gt, snd_cmp⟩
theorem od_ge : OpD X (compareOp .GtE) (gCmp fun i j => decide (j ≤ i)) := ⟨_, op_ge, snd_cmp⟩
theorem od_eq (hu : X.A.units + 64 < cLine) : OpD X (compareOp .Eq) gEq := ⟨_, op_eqD hu, snd_eqD⟩
theorem od_ne (hu : X.A.units + 64 < cLine) : OpD X (compareOp .NotEq) gNe := ⟨_, op_neD hu, snd_neD⟩
theorem od_isN : OpD X (compareOp .Is) gIsN := ⟨_, op_isN, snd_isN⟩
theorem od_notN : OpD X (compareOp .IsNot) gNotN := ⟨_, op_notN, snd_notN⟩
theorem od_in (hu : X.A.units + 65 < cLine) : OpD X (compareOp .In) (gIn false) := ⟨_, .or op_in_seq (op_inD hu), snd_in false⟩
theorem od_notin (hu : X.A.units + 65 < cLine) : OpD X (compareOp .NotIn) (gIn true) := ⟨_, .or op_notIn_seq (op_notInD hu), snd_in true⟩
def gNeg : D1 := fun x S R => match x.int? with
  | some i => R (dI (-i)) S
  | none => False
theorem ud_neg : UnD X (unaryOp .USub) gNeg := ⟨_, un_neg, fun B S σ ts H x dx R Q h hd k => by
  obtain ⟨F, α, h⟩ := h
  unfold gNeg at hd
  split at hd
  · rename_i i e
    rw [int?_eq e] at h
    exact ⟨i, vok_int h.top, k _ _ S H hd ((h.sub mem1).add vint).ok⟩
  · exact hd.elim⟩
end

/-! ## chains of comparisons, subscripts, slices -/
def dChain (g g' : D2) (da db dc : DTE) : DTE := fun S R => da S fun x S1 => db S1 fun y S2 => g x y S2 fun z S3 => match z with
  | .imm (.bool b) => if b = true then dc S3 fun u S4 => g' y u S4 R else R (dB false) S3
  | _ => False
section
variable {P : Program} {w : World} {K : PySem.W.Frag} {ta tb tc : TE} {da db dc : DTE}
theorem snd_chain {r r' : R2} {g g' : D2} (ha : SndE P w K ta da) (hb : SndE P w K tb db) (hc : SndE P w K tc dc) (hr : SndR P w K r g) (hr' : SndR P w K r' g') :
    SndE P w K (tChain r r' ta tb tc) (dChain g g' da db dc) := fun B S σ ts H R Q h hd k =>
  ha B S σ ts H _ _ h hd fun x dx S1 H1 h1 o1 => hb B S1 σ _ H1 _ _ o1 h1 fun y dy S2 H2 h2 o2 => by
    have o2' : StOk P w K B S2 σ ((y, dy) :: (x, dx) :: (y, dy) :: ts) H2 := o2.sub fun p hp => by
      rcases List.mem_cons.mp hp with e | hp
      · subst e; exact List.mem_cons_self
      · rcases List.mem_cons.mp hp with e | hp
        · subst e; exact List.mem_cons_of_mem _ List.mem_cons_self
        · rcases List.mem_cons.mp hp with e | hp
          · subst e; exact List.mem_cons_self
          · exact List.mem_cons_of_mem _ (List.mem_cons_of_mem _ hp)
    refine hr B S2 σ ((y, dy) :: ts) H2 x y dx dy _ _ o2' h2 fun z dz S3 H3 h3 o3 => ?_
    obtain ⟨b, rfl, h4⟩ := bool_of (R := fun b => if b = true then dc S3 fun u S4 => g' dy u S4 R else R (dB false) S3) h3
    obtain ⟨F, α, o3⟩ := o3
    refine ⟨b, vok_bl o3.top, ?_⟩
    cases b with
    | true =>
      have o4 : StOk P w K B S3 σ ((y, dy) :: ts) H3 := (o3.sub fun p hp => List.mem_cons_of_mem _ hp).ok
      exact hc B S3 σ _ H3 _ _ o4 h4 fun u du S4 H4 h5 o5 => hr' B S4 σ ts H4 y u dy du R Q o5 h5 k
    | false => exact k _ _ S3 H3 h4 ((o3.sub fun p hp => List.mem_cons_of_mem _ (List.mem_cons_of_mem _ hp)).add vbl).ok
end
section
variable {X : Cx} {a b c : Expr} {da db dc : DTE} {pos : Pos} {g g' : D2}
theorem de_chain {op op' : CmpOp} (o : OpD X (compareOp op) g) (o' : OpD X (compareOp op') g') (ha : DE X a da) (hb : DE X b db) (hc : DE X c dc) (hm : lastMarks [op, op'] [b, c] = false := by rfl) : DE X (.Compare a [op, op'] [b, c] pos) (dChain g g' da db dc) := by
  obtain ⟨r, o1, o2⟩ := o.ex
  obtain ⟨r', p1, p2⟩ := o'.ex
  obtain ⟨ta, a1, a2⟩ := ha.ex
  obtain ⟨tb, b1, b2⟩ := hb.ex
  obtain ⟨tc, c1, c2⟩ := hc.ex
  exact ⟨_, pe_chain o1 p1 a1 b1 c1 (hm := hm), snd_chain a2 b2 c2 o2 p2⟩
theorem dt_chain {op op' : CmpOp} (o : OpD X (compareOp op) g) (o' : OpD X (compareOp op') g') (ha : DE X a da) (hb : DE X b db) (hc : DE X c dc) (hm : lastMarks [op, op'] [b, c] = false := by rfl) : DT X (.Compare a [op, op'] [b, c] pos) (dTest (dChain g g' da db dc)) := by
  obtain ⟨r, o1, o2⟩ := o.ex
  obtain ⟨r', p1, p2⟩ := o'.ex
  obtain ⟨ta, a1, a2⟩ := ha.ex
  obtain ⟨tb, b1, b2⟩ := hb.ex
  obtain ⟨tc, c1, c2⟩ := hc.ex
  exact ⟨_, pt_chain o1 p1 a1 b1 c1 (hm := hm), snd_test (snd_chain a2 b2 c2 o2 p2)⟩
/-! ### x[i] -/
def gIx : D2 := fun x y S R => match y.int? with
  | some i => match S.seq x with
    | some (_, ds) => match atI ds i with
      | some d => R d S
      | none => False
    | none => match x.str? with
      | some z => z.length ≤ sizeLine ∧ match atI z.cps.toList i with
        | some c => R (dS ⟨#[c]⟩) S
        | none => False
      | none => False
  | none => False
theorem snd_ix {P : Program} {w : World} {K : PySem.W.Frag} : SndR P w K (rIx K) gIx := fun B S σ ts H x y dx dy R Q h hd k => by
  obtain ⟨F, α, h⟩ := h
  unfold gIx at hd
  split at hd
  · rename_i i e1
    rw [int?_eq e1] at h
    split at hd
    · rename_i l ds e2
      cases e3 : atI ds i with
      | none => rw [e3] at hd; exact hd.elim
      | some d =>
        rw [e3] at hd
        obtain ⟨p, xs, rfl, hq, hp⟩ := h.seq h.top2 e2
        obtain ⟨v, hv, hvd⟩ := Paired.atI' hp e3
        have fin := k v d S H hd ((h.sub mem2).add hvd).ok
        cases l with
        | true => exact .inl ⟨p, xs, i, v, rfl, vok_int h.top, hq, hv, fin⟩
        | false => exact .inr (.inl ⟨p, xs, i, v, rfl, vok_int h.top, hq, hv, fin⟩)
    · split at hd
      · rename_i z e2
        rw [str?_eq e2] at h
        obtain ⟨hz, hd⟩ := hd
        cases e3 : atI z.cps.toList i with
        | none => rw [e3] at hd; exact hd.elim
        | some c =>
          rw [e3] at hd
          exact .inr (.inr ⟨z, i, c, vok_str h.top2, vok_int h.top, hz, e3, k _ _ S H hd ((h.sub mem2).add vstr).ok⟩)
      · exact hd.elim
  · exact hd.elim
theorem de_ix (ha : DE X a da) (hb : DE X b db) (hs : PlainIx b := by exact fun _ _ => rfl) : DE X (.Subscript a b pos) (dOp gIx da db) := by
  obtain ⟨ta, a1, a2⟩ := ha.ex
  obtain ⟨tb, b1, b2⟩ := hb.ex
  exact ⟨_, pe_ix ix_seq a1 b1 hs, snd_op a2 b2 snd_ix⟩
/-! ### x[lo:hi] -/
abbrev DTO := DSt → (Option Int → DSt → Prop) → Prop
def dNoPart : DTO := fun S R => R none S
def dPart (de : DTE) : DTO := fun S R => de S fun x S1 => match x.int? with
  | some i => R (some i) S1
  | none => False
structure DO' (X : Cx) (e : Option Expr) (d : DTO) : Prop where
  ex : ∃ t, PO X e t ∧ ∀ (B : Bs) (S : DSt) (σ : L2.St) (ts : List (V × DV)) (H : Hp) (R : Option Int → DSt → Prop) (Q : Option Int → Hp → Prop), StOk X.prog X.w X.K B S σ ts H → d S R →
    (∀ o S' H', R o S' → StOk X.prog X.w X.K B S' σ ts H' → Q o H') → t σ H Q
theorem do_none : DO' X none dNoPart := ⟨_, po_none, fun B S σ ts H R Q h hd k => k none S H hd h⟩
theorem do_some (ha : DE X a da) : DO' X (some a) (dPart da) := by
  obtain ⟨ta, a1, a2⟩ := ha.ex
  refine ⟨_, po_some a1, fun B S σ ts H R Q h hd k => a2 B S σ ts H _ _ h hd fun x dx S1 H1 h1 o1 => ?_⟩
  split at h1
  · rename_i i e
    rw [int?_eq e] at o1
    obtain ⟨F, α, o1⟩ := o1
    exact ⟨i, vok_int o1.top, k _ S1 H1 h1 (o1.sub mem1).ok⟩
  · exact h1.elim
def cutD {α : Type} (xs : List α) (lo hi : Option Int) : List α := (xs.drop (HT.sIx xs.length 0 lo)).take (HT.sIx xs.length xs.length hi - HT.sIx xs.length 0 lo)
def gSl (x : DV) (lo hi : Option Int) : DSt → (DV → DSt → Prop) → Prop := fun S R => match S.seq x with
  | some (b, ds) => match allImm ds with
    | some ps => R (.imm (if b = true then .list (cutD ps lo hi) else .tuple (cutD ps lo hi))) S
    | none => False
  | none => match x.str? with
    | some z => z.length ≤ sizeLine ∧ R (dS (cutS z lo hi)) S
    | none => False
def dSl (da : DTE) (dl dh : DTO) : DTE := fun S R => da S fun x S1 => dl S1 fun lo S2 => dh S2 fun hi S3 => gSl x lo hi S3 R
theorem cutD_eq {α β : Type} {xs : List α} {ys : List β} (hl : xs.length = ys.length) (lo hi : Option Int) : HT.sIx xs.length 0 lo = HT.sIx ys.length 0 lo ∧ HT.sIx xs.length xs.length hi = HT.sIx ys.length ys.length hi := by rw [hl]; exact ⟨rfl, rfl⟩
theorem cut_whole {α : Type} {xs : List α} {lo hi : Option Int} (h : HT.sIx xs.length 0 lo = 0 ∧ HT.sIx xs.length xs.length hi = xs.length) : cutD xs lo hi = xs := by
  unfold cutD
  rw [h.1, h.2, List.drop_zero, Nat.sub_zero, List.take_length]
theorem RpAll.cut {P : Program} {w : World} {K : PySem.W.Frag} {F : Hp} {xs : List V} {ps : List PyData} (h : RpAll P w K F xs ps) (lo hi : Option Int) : RpAll P w K F (cutV xs lo hi) (cutD ps lo hi) := by
  unfold cutV cutD
  rw [h.length]
  exact (h.drop _).take _
theorem de_sl {lo hi : Option Expr} {p2 : Pos} {dl dh : DTO} (ha : DE X a da) (hl : DO' X lo dl) (hh : DO' X hi dh) : DE X (.Subscript a (.Slice lo hi none p2) pos) (dSl da dl dh) := by
  obtain ⟨ta, a1, a2⟩ := ha.ex
  obtain ⟨tl, l1, l2⟩ := hl.ex
  obtain ⟨th, h1', h2'⟩ := hh.ex
  refine ⟨_, pe_slice (.or sl_list (.or sl_tupZ sl_str)) a1 l1 h1', fun B S σ ts H R Q h hd k => a2 B S σ ts H _ _ h hd fun x dx S1 H1 h1 o1 => l2 B S1 σ _ H1 _ _ o1 h1 fun lo' S2 H2 h2 o2 => h2' B S2 σ _ H2 _ _ o2 h2 fun hi' S3 H3 h3 o3 => ?_⟩
  obtain ⟨F, α, o3⟩ := o3
  unfold gSl at h3
  split at h3
  · rename_i l ds e1
    cases e2 : allImm ds with
    | none => rw [e2] at h3; exact h3.elim
    | some ps =>
      rw [e2] at h3
      obtain ⟨p, xs, rfl, hq, hp⟩ := o3.seq o3.top e1
      have hr := imms e2 hp
      cases l with
      | true => exact .inl ⟨p, xs, rfl, hq, fun r hr' => k _ _ S3 _ h3 ((o3.sub mem1).newLst hr' (hr.cut lo' hi')).ok⟩
      | false =>
        refine .inr (.inl ⟨p, xs, rfl, hq, fun hw => ?_, fun r ob hr' ho => k _ _ S3 _ h3 ((o3.sub mem1).newTup hr' ho (hr.cut lo' hi')).ok⟩)
        have e3 : cutD ps lo' hi' = ps := cut_whole (by rw [← hr.length]; exact hw)
        have h3' : R (.imm (.tuple (cutD ps lo' hi'))) S3 := h3
        rw [e3] at h3'
        refine k _ _ S3 H3 h3' ((o3.sub mem1).add ?_).ok
        cases dx with
        | imm d =>
          have e1' : (match d with | .list ds => some (true, ds.map DV.imm) | .tuple ds => some (false, ds.map DV.imm) | _ => none) = some (false, ds) := by
            cases d <;> exact e1
          cases d with
          | tuple qs =>
            have e4 : qs.map DV.imm = ds := by
              have := e1'
              simp only [Option.some.injEq, Prod.mk.injEq, true_and] at this
              exact this
            have e5 : qs = ps := by
              rw [← e4, allImm_map] at e2
              exact Option.some.inj e2
            rw [← e5]
            exact o3.top
          | list qs => simp at e1'
          | none => simp at e1'
          | bool _ => simp at e1'
          | int _ => simp at e1'
          | str _ => simp at e1'
          | dict _ => simp at e1'
        | cell j =>
          exfalso
          have e1' : (match S3.cell j with | some (.lst ds) => some (true, ds) | _ => none) = some (false, ds) := e1
          split at e1' <;> simp at e1'
        | raw _ => cases e1
        | obj _ => cases e1
        | scr _ => simp [DSt.seq] at e1
  · split at h3
    · rename_i z e1
      rw [str?_eq e1] at o3
      exact .inr (.inr ⟨z, vok_str o3.top, h3.1, k _ _ S3 H3 h3.2 ((o3.sub mem1).add vstr).ok⟩)
    · exact h3.elim
end
end DL

set_option Elab.async false
set_option linter.all false
set_option maxRecDepth 100000
set_option autoImplicit false
set_option maxHeartbeats 1000000
namespace DL
open PySem PySem.Spec L2

/-! ## statements -/
def dNext : DTS := fun D S => D.nx S
def dSeq (t u : DTS) : DTS := fun D S => t { D with nx := u D } S
/-- a sequence with a word M between -/
def dCut (t u : DTS) : DTS := fun D S => ∃ M : DSt → Prop, t { D with nx := M } S ∧ ∀ S', M S' → u D S'
def dBreak : DTS := fun D S => D.bk S
def dCont : DTS := fun D S => D.ct S
def dDrop (de : DTE) : DTS := fun D S => de S fun _ S1 => D.nx S1
def dRet (de : DTE) : DTS := fun D S => de S D.rt
def dRetN : DTS := fun D S => D.rt dN S
def dIfS (c : DTT) (t u : DTS) : DTS := fun D S => c S fun b S1 => if b = true then t D S1 else u D S1
def dNever : DTS := fun _ _ => False
/-- the value at hand is a list that nobody changes any more -/
def DSt.frz (S : DSt) (d : DV) : Option PyData := match d with
  | .imm d => some d
  | .cell k => match S.cell k with
    | some (.lst ds) => (allImm ds).map PyData.list
    | _ => none
  | _ => none
def dFz (de : DTE) : DTE := fun S R => de S fun d S1 => match S1.frz d with
  | some p => R (.imm p) (match d with | .cell k => ⟨S1.ρ, S1.μ.set k none⟩ | _ => S1)
  | none => False

/-! ### targets: a yield is one value or a new pair -/
inductive DY where
  | one (d : DV)
  | two (d e : DV)
abbrev DTG := DY → DSt → (DSt → Prop) → Prop
def dgName (i : Nat) : DTG := fun y S R => match y with
  | .one d => R (S.set i d)
  | .two _ _ => False
/-- a, b = .. -/
def dgTwo (i j : Nat) : DTG := fun y S R => match y with
  | .two d e => R ((S.set i d).set j e)
  | .one d => match d.tup? with
    | some [p, q] => R ((S.set i (.imm p)).set j (.imm q))
    | _ => False
section
variable (P : Program) (w : World) (K : PySem.W.Frag)
def YOk (F : Hp) (α : List Addr) (H : Hp) (v : V) : DY → Prop
  | .one d => VOk P w K F α v d
  | .two d e => ∃ T x y, v = .ref T ∧ H T = some (.tup [x, y]) ∧ VOk P w K F α x d ∧ VOk P w K F α y e
def StY (B : Bs) (S : DSt) (σ : L2.St) (ts : List (V × DV)) (H : Hp) (v : V) (y : DY) : Prop := ∃ F α, StAt P w K B S σ ts H F α ∧ YOk P w K F α H v y
/-- js: the slots that the target sets -/
def SndG (js : List Nat) (g : TG) (dg : DTG) : Prop := ∀ (B : Bs) (S : DSt) (σ : L2.St) (ts : List (V × DV)) (H : Hp) (v : V) (y : DY) (R : DSt → Prop) (Q : L2.St → Hp → Prop), StY P w K B S σ ts H v y → dg y S R →
  (∀ S' σ' H', R S' → S'.μ = S.μ → (∀ vs : List Nat, (∀ j ∈ js, j ∈ vs) → wipe σ' vs = wipe σ vs) → StOk P w K B S' σ' ts H' → Q σ' H') → g v σ H Q
end
structure DG (X : Cx) (tg : Expr) (js : List Nat) (dg : DTG) : Prop where
  ex : ∃ g, PG X tg g ∧ SndG X.prog X.w X.K js g dg

section
variable {P : Program} {w : World} {K : PySem.W.Frag} {B : Bs} {S S' : DSt} {σ : L2.St} {ts : List (V × DV)} {H F F' : Hp} {α : List Addr} {v : V} {d : DV}
theorem StAt.setSlot (h : StAt P w K B S σ ts H F α) {i : Nat} (hv : VOk P w K F α v d) : StAt P w K B (S.set i d) (σ.set i (some v)) ts H F α := by
  refine { h with len := ?_, sl := fun j e q => ?_ }
  · show (S.ρ.set i (some d)).length = (σ.set i (some v)).length
    rw [List.length_set, List.length_set]; exact h.len
  · have q' : (S.ρ.set i (some d))[j]? = some (some e) := q
    by_cases c : i = j
    · subst c
      by_cases hi : i < S.ρ.length
      · rw [List.getElem?_set_self hi] at q'
        cases q'
        exact ⟨v, by rw [List.getElem?_set_self (by rw [← h.len]; exact hi)], hv⟩
      · rw [List.getElem?_eq_none (by rw [List.length_set]; omega)] at q'
        cases q'
    · rw [List.getElem?_set_ne c] at q'
      obtain ⟨u, h1, h2⟩ := h.sl j e q'
      exact ⟨u, by rw [List.getElem?_set_ne c]; exact h1, h2⟩
theorem wipe_set (σ : L2.St) (j : Nat) (x : Option V) : ∀ vs : List Nat, j ∈ vs → wipe (σ.set j x) vs = wipe σ vs
  | [], h => by cases h
  | i :: vs, h => by
    show (wipe (σ.set j x) vs).set i none = (wipe σ vs).set i none
    by_cases c : j ∈ vs
    · rw [wipe_set σ j x vs c]
    · have e : i = j := by
        rcases List.mem_cons.mp h with e | e
        · exact e.symm
        · exact absurd e c
      subst e
      have key : ∀ (σ : L2.St) (vs : List Nat), i ∉ vs → wipe (σ.set i x) vs = (wipe σ vs).set i x := by
        intro σ vs
        induction vs with
        | nil => intro _; rfl
        | cons k vs ih =>
          intro hn
          have h1 : i ≠ k := fun e => hn (e ▸ List.mem_cons_self)
          have h2 : i ∉ vs := fun e => hn (List.mem_cons_of_mem _ e)
          show (wipe (σ.set i x) vs).set k none = ((wipe σ vs).set k none).set i x
          rw [ih h2, List.set_comm _ _ h1]
      rw [key σ vs c, List.set_set]
theorem snd_name (i : Nat) : SndG P w K [i] (gName i) (dgName i) := fun B S σ ts H v y R Q h hd k => by
  obtain ⟨F, α, h, hy⟩ := h
  cases y with
  | two _ _ => exact hd.elim
  | one d => exact k _ _ H hd rfl (fun vs hj => wipe_set _ _ _ _ (hj i (by simp))) (h.setSlot hy).ok
theorem snd_two (i j : Nat) : SndG P w K [i, j] (gTup K 2 (gCons (gName i) (gCons (gName j) gNil))) (dgTwo i j) := fun B S σ ts H v y R Q h hd k => by
  obtain ⟨F, α, h, hy⟩ := h
  have wp : ∀ {a b : V}, ∀ vs : List Nat, (∀ z ∈ [i, j], z ∈ vs) → wipe ((σ.set i (some a)).set j (some b)) vs = wipe σ vs := fun vs hj => by
    rw [wipe_set _ _ _ _ (hj j (by simp)), wipe_set _ _ _ _ (hj i (by simp))]
  cases y with
  | two d e =>
    obtain ⟨T, x, z, rfl, hT, hx, hz⟩ := hy
    refine ⟨T, [x, z], rfl, .inl (.inl hT), rfl, x, [z], rfl, z, [], rfl, rfl, ?_⟩
    exact k _ _ H hd rfl wp ((h.setSlot hx).setSlot hz).ok
  | one d =>
    have hd' : match d.tup? with | some [p, q] => R ((S.set i (.imm p)).set j (.imm q)) | _ => False := hd
    split at hd'
    · rename_i p q e
      rw [tup?_eq e] at hy
      obtain ⟨a, ys, rfl, tz, rp⟩ := rp_tup (α := α) hy
      cases rp with
      | cons r1 r2 => cases r2 with
        | cons r3 r4 => cases r4 with
          | nil =>
            rename_i x z
            refine ⟨a, [x, z], rfl, (tz.up h.fh).t, rfl, x, [z], rfl, z, [], rfl, rfl, ?_⟩
            exact k _ _ H hd' rfl wp ((h.setSlot (v := x) (d := .imm p) r1).setSlot (v := z) (d := .imm q) r3).ok
    · exact hd'.elim
theorem Lift.sub {ts' : List (V × DV)} {D : DEnds} {G : Ends} (l : Lift P w K B ts D G) (hs : ∀ p ∈ ts, p ∈ ts') : Lift P w K B ts' D G where
  nx S σ H h o := l.nx S σ H h (o.sub hs)
  rt v d S σ H h o := l.rt v d S σ H h (o.sub fun p hp => by
    rcases List.mem_cons.mp hp with e | hp
    · subst e; exact List.mem_cons_self
    · exact List.mem_cons_of_mem _ (hs p hp))
  bk S σ H h o := l.bk S σ H h (o.sub hs)
  ct S σ H h o := l.ct S σ H h (o.sub hs)
variable {ta tb te : TE} {da db de : DTE} {tt tu : TT} {dt du : DTT} {t u : TS} {ds du' : DTS}
theorem snd_next : SndS P w K tNext dNext := fun B S σ ts H D G h hd l => l.nx S σ H hd h
theorem snd_seq (h1 : SndS P w K t ds) (h2 : SndS P w K u du') : SndS P w K (tSeq t u) (dSeq ds du') := fun B S σ ts H D G h hd l =>
  h1 B S σ ts H _ _ h hd ⟨fun S1 σ1 H1 q o => h2 B S1 σ1 ts H1 D G o q l, l.rt, l.bk, l.ct⟩
theorem snd_cut (h1 : SndS P w K t ds) (h2 : SndS P w K u du') : SndS P w K (tSeq t u) (dCut ds du') := fun B S σ ts H D G h ⟨M, hd, hm⟩ l =>
  h1 B S σ ts H _ _ h hd ⟨fun S1 σ1 H1 q o => h2 B S1 σ1 ts H1 D G o (hm S1 q) l, l.rt, l.bk, l.ct⟩
theorem snd_break : SndS P w K tBreak dBreak := fun B S σ ts H D G h hd l => l.bk S σ H hd h
theorem snd_cont : SndS P w K tCont dCont := fun B S σ ts H D G h hd l => l.ct S σ H hd h
theorem snd_drop (ha : SndE P w K te de) : SndS P w K (tDrop te) (dDrop de) := fun B S σ ts H D G h hd l =>
  ha B S σ ts H _ _ h hd fun v d S1 H1 q o => l.nx S1 σ H1 q o.drop
theorem snd_ret (ha : SndE P w K te de) : SndS P w K (tRet te) (dRet de) := fun B S σ ts H D G h hd l =>
  ha B S σ ts H _ _ h hd fun v d S1 H1 q o => l.rt v d S1 σ H1 q o
theorem snd_retN : SndS P w K tRetN dRetN := fun B S σ ts H D G h hd l => by
  obtain ⟨F, α, h⟩ := h
  exact l.rt .non dN S σ H hd (h.add vnon).ok
theorem snd_ifS (hc : SndT P w K tt dt) (h1 : SndS P w K t ds) (h2 : SndS P w K u du') : SndS P w K (tIfS tt t u) (dIfS dt ds du') := fun B S σ ts H D G h hd l =>
  hc B S σ ts H _ _ h hd fun b S1 H1 q o => by
    cases b with
    | true => exact h1 B S1 σ ts H1 D G o q l
    | false => exact h2 B S1 σ ts H1 D G o q l
theorem snd_never : SndS P w K tNever dNever := fun _ _ _ _ _ _ _ _ hd _ => hd.elim
theorem StAt.freeze {k : Nat} {a : Addr} {xs : List V} {ps : List PyData} (h : StAt P w K B S σ ts H F α) (ha : α[k]? = some a) (hF : F a = none) (hH : H a = some (.lst xs)) (hr : RpAll P w K F xs ps) (hb : a ∉ B.ps) :
    StAt P w K B ⟨S.ρ, S.μ.set k none⟩ σ ((.ref a, .imm (.list ps)) :: ts) H (upd F a (.lst xs)) α := by
  have e : Ex F (upd F a (.lst xs)) := Ex.new hF
  have am : a ∈ α := List.mem_of_getElem? ha
  refine ⟨fun b v q => ?_, h.bh, h.bf.trans e, fun b v q1 q2 q3 => ?_, h.bp, h.bn, h.nd, ?_, h.an, h.len, fun i d q => ?_, fun q hq => ?_, fun j v q => ?_⟩
  · by_cases c : b = a
    · subst c; rw [upd_same] at q; cases q; exact hH
    · rw [upd_ne c] at q; exact h.fh b v q
  · obtain ⟨h1, h2, h3⟩ := h.bc b v q1 q2 q3
    have c : b ≠ a := fun z => h3 (z ▸ am)
    exact ⟨h1, by rw [upd_ne c]; exact h2, h3⟩
  · show α.length = (S.μ.set k none).length
    rw [List.length_set]; exact h.al
  · obtain ⟨v, h1, h2⟩ := h.sl i d q
    exact ⟨v, h1, h2.up0 e⟩
  · rcases List.mem_cons.mp hq with c | hq
    · subst c; exact Rp.lst upd_same (hr.up e)
    · exact (h.tm q hq).up0 e
  · have q' : (S.μ.set k none)[j]? = some (some v) := q
    by_cases c : k = j
    · subst c
      rw [List.getElem?_set_self (by rw [← h.al]; exact (List.getElem?_eq_some_iff.mp ha).1)] at q'
      cases q'
    · rw [List.getElem?_set_ne c] at q'
      obtain ⟨b, h1, h2, h3⟩ := h.ce j v q'
      have cb : b ≠ a := fun z => by
        subst z
        have i1 := List.getElem?_eq_some_iff.mp ha
        have i2 := List.getElem?_eq_some_iff.mp h1
        exact c ((List.getElem_inj h.nd).mp (i1.2.trans i2.2.symm))
      exact ⟨b, h1, by rw [upd_ne cb]; exact h2, h3.up0 e rfl⟩
end
section
variable {X : Cx} {st : Stmt} {rest : List Stmt} {e c : Expr} {de : DTE} {dt : DTT} {ds du : DTS} {pos : Pos}
theorem dss_nil : DSs X [] dNext := ⟨_, pss_nil, snd_next⟩
theorem dss_one (h : DS X st ds) : DSs X [st] ds := by
  obtain ⟨t, a1, a2⟩ := h.ex
  exact ⟨_, pss_one a1, a2⟩
theorem dss_cons (h : DS X st ds) (r : DSs X rest du) : DSs X (st :: rest) (dSeq ds du) := by
  obtain ⟨t, a1, a2⟩ := h.ex
  obtain ⟨u, b1, b2⟩ := r.ex
  exact ⟨_, pss_cons a1 b1, snd_seq a2 b2⟩
theorem dss_cut (h : DS X st ds) (r : DSs X rest du) : DSs X (st :: rest) (dCut ds du) := by
  obtain ⟨t, a1, a2⟩ := h.ex
  obtain ⟨u, b1, b2⟩ := r.ex
  exact ⟨_, pss_cons a1 b1, snd_cut a2 b2⟩
theorem dss_never : DSs X rest dNever := ⟨_, pss_never, snd_never⟩
theorem ds_pass : DS X (.Pass pos) dNext := ⟨_, ps_pass, snd_next⟩
theorem ds_break : DS X (.Break pos) dBreak := ⟨_, ps_break, snd_break⟩
theorem ds_continue : DS X (.Continue pos) dCont := ⟨_, ps_continue, snd_cont⟩
theorem ds_expr (he : DE X e de) (hs : swapsWith e none pos.line X.env = pure false := by rfl) : DS X (.Expr e pos) (dDrop de) := by
  obtain ⟨t, a1, a2⟩ := he.ex
  exact ⟨_, ps_expr a1 hs, snd_drop a2⟩
theorem ds_ret (he : DE X e de) : DS X (.Return (some e) pos) (dRet de) := by
  obtain ⟨t, a1, a2⟩ := he.ex
  exact ⟨_, ps_ret a1, snd_ret a2⟩
theorem ds_retN : DS X (.Return none pos) dRetN := ⟨_, ps_retN, snd_retN⟩
theorem ds_if {a b : List Stmt} (hc : DT X c dt) (ha : DSs X a ds) (hb : DSs X b du) : DS X (.If c a b pos) (dIfS dt ds du) := by
  obtain ⟨tc, c1, c2⟩ := hc.ex
  obtain ⟨t, a1, a2⟩ := ha.ex
  obtain ⟨u, b1, b2⟩ := hb.ex
  exact ⟨_, ps_if c1 a1 b1, snd_ifS c2 a2 b2⟩
theorem ds_never : DS X st dNever := ⟨_, ps_never, snd_never⟩
/-- the value is frozen where it stands; not a cell that was handed in -/
def dFzOk (S : DSt) (d : DV) (n : Nat) : Prop := ∀ k, d = .cell k → n ≤ k

/-! ### stores -/
def dAsg (de : DTE) (dg : DTG) : DTS := fun D S => de S fun d S1 => dg (.one d) S1 D.nx
theorem dg_name {i : Nat} {x : Str} {p : Pos} (hN : X.N.Nodup) (hi : X.N[i]? = some x) (hx : Loc X.env.scope x) (hf : X.fn x = true ∨ X.env.scope.names.lookup x = some .local := by first | exact .inl rfl | exact .inr rfl | assumption) : DG X (.Name x p) [i] (dgName i) :=
  ⟨_, pg_name hN hi hx hf, snd_name i⟩
theorem dg_two {i j : Nat} {x y : Str} {p q : Pos} {kk : Nat} (hc : X.calm = true) (hN : X.N.Nodup) (hi : X.N[i]? = some x) (hj : X.N[j]? = some y) (hx : Loc X.env.scope x) (hy : Loc X.env.scope y)
    (hf : X.fn x = true ∨ X.env.scope.names.lookup x = some .local := by first | exact .inl rfl | exact .inr rfl | assumption) (hf' : X.fn y = true ∨ X.env.scope.names.lookup y = some .local := by first | exact .inl rfl | exact .inr rfl | assumption) :
    DG X (.Tuple [.Name x p, .Name y q] kk pos) [i, j] (dgTwo i j) :=
  ⟨_, pg_tup hc (pgs_cons (pg_name hN hi hx hf) (pgs_cons (pg_name hN hj hy hf') pgs_nil)), snd_two i j⟩
theorem ds_set {i : Nat} {x : Str} {pos' : Pos} (hN : X.N.Nodup) (hi : X.N[i]? = some x) (hx : Loc X.env.scope x) (he : DE X e de) (hs : swapsWith e (some (.Name x pos')) pos.line X.env = pure false := by rfl) (hf : X.fn x = true ∨ X.env.scope.names.lookup x = some .local := by first | exact .inl rfl | exact .inr rfl | assumption) :
    DS X (.Assign [.Name x pos'] e pos) (dAsg de (dgName i)) := by
  obtain ⟨t, a1, a2⟩ := he.ex
  refine ⟨_, ps_set hN hi hx a1 hs hf, fun B S σ ts H D G h hd l => a2 B S σ ts H _ _ h hd fun v d S1 H1 q o => ?_⟩
  obtain ⟨F, α, o⟩ := o
  exact l.nx _ _ H1 q ((o.setSlot o.top).sub mem1).ok
theorem ds_asg {tg : Expr} {js : List Nat} {dg : DTG} (he : DE X e de) (hg : DG X tg js dg) (hs : swapsWithSole [tg] e pos.line X.env = pure false := by rfl) (hw : swappedStores [tg] e X.env = pure none := by rfl)
    (h1 : (assignEach [tg] X.env).map (·.2) = [assign tg X.env] := by rfl) : DS X (.Assign [tg] e pos) (dAsg de dg) := by
  obtain ⟨t, a1, a2⟩ := he.ex
  obtain ⟨g, g1, g2⟩ := hg.ex
  refine ⟨_, ps_asg a1 g1 hs hw h1, fun B S σ ts H D G h hd l => a2 B S σ ts H _ _ h hd fun v d S1 H1 q o => ?_⟩
  obtain ⟨F, α, o⟩ := o
  exact g2 B S1 σ ts H1 v (.one d) _ _ ⟨F, α, o.sub mem1, o.top⟩ q fun S' σ' H' q' _ _ o' => l.nx _ _ _ q' o'
/-- a, b = x, y -/
def dPar (i j : Nat) (da : DTA) : DTS := fun D S => da S fun ds S1 => match ds with
  | [d, e] => D.nx ((S1.set i d).set j e)
  | _ => False
theorem ds_par {i j : Nat} {x y : Str} {a b : Expr} {da : DTA} {px py pt : Pos} {kt k2 pt2} (hc : X.calm = true) (hN : X.N.Nodup) (hi : X.N[i]? = some x) (hj : X.N[j]? = some y) (hij : i ≠ j)
    (hx : X.env.scope.names.lookup x = some .local) (hy : X.env.scope.names.lookup y = some .local) (ha : DA X [a, b] da)
    (hw : swappedStores [.Tuple [.Name x px, .Name y py] kt pt] (.Tuple [a, b] k2 pt2) X.env = pure (some [x, y]))
    (hs : swapsWithSole [.Tuple [.Name x px, .Name y py] kt pt] (.Tuple [a, b] k2 pt2) pos.line X.env = pure false := by rfl) :
    DS X (.Assign [.Tuple [.Name x px, .Name y py] kt pt] (.Tuple [a, b] k2 pt2) pos) (dPar i j da) := by
  obtain ⟨t, a1, a2⟩ := ha.ex
  refine ⟨_, ps_par hc hN hi hj hij hx hy a1 hw hs, fun B S σ ts H D G h hd l => a2 B S σ ts H _ _ h hd fun vs ds S1 H1 hl q o => ?_⟩
  match ds, q with
  | [d, e], q =>
    match vs, hl with
    | [v, w], _ =>
      obtain ⟨F, α, o⟩ := o
      have h1 := o.tm (v, d) (by simp)
      have h2 := o.tm (w, e) (by simp)
      exact ⟨v, w, rfl, l.nx _ _ H1 q (((o.setSlot h1).setSlot h2).sub memA).ok⟩
/-- x op= e: x a name -/
def dAug (i : Nat) (g : D2) (de : DTE) : DTS := fun D S => match S.get i with
  | some x => de S fun y S1 => g x y S1 fun z S2 => D.nx (S2.set i z)
  | none => False
theorem ds_aug {i : Nat} {x : Str} {op : Operator} {f : Int → Int → Int} {pos' : Pos} (hN : X.N.Nodup) (hi : X.N[i]? = some x) (hx : Loc X.env.scope x) (he : DE X e de) (ho : PIp X op (ipI f)) (hf : X.fn x = true ∨ X.env.scope.names.lookup x = some .local := by first | exact .inl rfl | exact .inr rfl | assumption) :
    DS X (.AugAssign (.Name x pos') op e pos) (dAug i (gII (fun _ _ => True) fun i j => dI (f i j)) de) := by
  obtain ⟨t, a1, a2⟩ := he.ex
  refine ⟨_, ps_aug hN hi hx a1 ho hf, fun B S σ ts H D G h hd l => ?_⟩
  unfold dAug at hd
  split at hd
  · rename_i d e1
    obtain ⟨F, α, h⟩ := h
    obtain ⟨v, h1, h2⟩ := h.sl i d (get_slot e1)
    refine ⟨v, h1, a2 B S σ _ H _ _ (h.add h2).ok hd fun y dy S1 H1 q o => ?_⟩
    unfold gII at q
    split at q
    · rename_i i' j' e2 e3
      rw [int?_eq e2, int?_eq e3] at o
      obtain ⟨F', α', o⟩ := o
      exact ⟨i', j', vok_int o.top2, vok_int o.top, l.nx _ _ H1 q.2 ((o.sub mem2).setSlot vint).ok⟩
    · exact q.elim
  · exact hd.elim
/-- xs[i] = v, xs a cell -/
def dSetIx (dv' dobj dix : DTE) : DTS := fun D S => dv' S fun v S1 => dobj S1 fun o S2 => dix S2 fun i S3 => match o, i.int? with
  | .cell k, some j => match S3.cell k with
    | some (.lst ds) => match ixN ds.length j with
      | some n => D.nx (S3.put k (.lst (ds.set n v)))
      | none => False
    | _ => False
  | _, _ => False
theorem ds_setIx {o i : Expr} {do' di : DTE} {p : Pos} (he : DE X e de) (ho : DE X o do') (hi : DE X i di)
    (hs : swapsWithSole [.Subscript o i p] e pos.line X.env = pure false := by rfl) (hw : swappedStores [.Subscript o i p] e X.env = pure none := by rfl) (h1 : (assignEach [.Subscript o i p] X.env).map (·.2) = [assign (.Subscript o i p) X.env] := by rfl)
    (hg : ∀ v, assign (.Subscript o i p) X.env v = (do let ov ← holding [v] (eval o X.env); let iv ← holding [v, ov] (eval i X.env); standAt p; holding [v, ov, iv] (setItem ov iv v); release [v, ov, iv] []) := by intro _; rfl) :
    DS X (.Assign [.Subscript o i p] e pos) (dSetIx de do' di) := by
  obtain ⟨t, a1, a2⟩ := he.ex
  obtain ⟨to, o1, o2⟩ := ho.ex
  obtain ⟨ti, i1, i2⟩ := hi.ex
  refine ⟨_, ps_asg a1 (pg_sub o1 i1 set_list hg) hs hw h1, fun B S σ ts H D G h hd l => a2 B S σ ts H _ _ h hd fun v d S1 H1 q q' => o2 B S1 σ _ H1 _ _ q' q fun x dx S2 H2 r r' => i2 B S2 σ _ H2 _ _ r' r fun y dy S3 H3 z z' => ?_⟩
  cases dx with
  | cell k =>
    have z1 : match dy.int? with
      | some j => match S3.cell k with
        | some (.lst ds) => match ixN ds.length j with
          | some n => D.nx (S3.put k (.lst (ds.set n d)))
          | none => False
        | _ => False
      | _ => False := by
      revert z
      cases dy.int? <;> exact id
    split at z1
    · rename_i j e1
      rw [int?_eq e1] at z'
      obtain ⟨F, α, z'⟩ := z'
      split at z1
      · rename_i ds e2
        split at z1
        · rename_i n e3
          obtain ⟨a, g1, g2, xs, g3, g4⟩ := z'.ce k _ (cell_get e2)
          obtain ⟨a', c1, rfl⟩ := z'.top2
          cases c1.symm.trans g1
          have hv : VOk X.prog X.w X.K F α v d := z'.tm (v, d) (by simp)
          refine ⟨a, xs, j, n, rfl, vok_int z'.top, g3, by rw [Paired.length g4]; exact e3, ?_⟩
          exact l.nx _ _ _ z1 ((z'.cellPut (u := .lst (ds.set n d)) g1 g2 ⟨_, upd_same, Paired.set' hv n g4⟩).sub fun p hp => by simp [hp]).ok
        · exact z1.elim
      · exact z1.elim
    · exact z1.elim
  | imm _ => exact z.elim
  | raw _ => exact z.elim
  | obj _ => exact z.elim
  | scr _ => exact z.elim
end
end DL

set_option Elab.async false
set_option linter.all false
set_option maxRecDepth 100000
set_option autoImplicit false
set_option maxHeartbeats 2000000
namespace L2
open PySem PySem.Spec PyProof.Rows
/-! ### enumerate over a tuple -/
theorem two_fits : 2 ≤ sizeLine := by decide
def IteT (K : PySem.W.Frag) (a : Addr) : It :=
  ⟨fun i H => ∃ (xs : List V) (x : V), SqT K H a xs ∧ xs[i]? = some x, fun i H v H' => ∃ T x, v = .ref T ∧ H T = none ∧ H' = upd H T (.tup [.int (i : Nat), x]) ∧ ∀ xs, SqT K H a xs → xs[i]? = some x, fun i H => ∃ xs : List V, SqT K H a xs ∧ xs.length = i⟩
/-- what an iterator that hands out its own tuples gives (WalksT), as a turn over the tracked part: the tuple at a stays, its items come with their places -/
theorem turn_enumT {P : Program} {w : World} {K : PySem.W.Frag} {elts : List Expr} {kk : Nat} {tpos : Pos} (a e it : Addr) :
    Turn P w K (.Tuple elts kk tpos) (IteT K a) [e, it] e (fun i h => (∃ old, IsEnum h e it (0 + (i : Int)) old) ∧ h.IsTupleIter it a i ∧ e ≠ it ∧ a ≠ it) := by
  -- the walk of the kit, for the items that stand at a
  have walk : ∀ (A : Around) (items : Array Value), A.in1.handled = none → e ≠ it → a ≠ it → e ≠ a → _ := fun A items hh n1 n2 n3 =>
    WalksT.enumFrom (prog := P) (w := w) (A := A) 0 (Draws.tuple hh it a n2 items) e n1 (by simp [n1, n3]) (by simp)
  have apart : ∀ {h : Heap} {items : Array Value} {c : Int} {old : Value}, IsEnum h e it c old → h.IsTuple a items → e ≠ a := by
    intro h items c old he ⟨o, ho, hc, _⟩ z
    subst z
    have := Option.some.inj (he.symm.trans ho)
    subst this
    injection hc with z
    exact absurd z (by decide)
  refine ⟨List.mem_cons_self, ?_, ?_, ?_, ?_, fun A i s Q E ⟨⟨_, he⟩, _⟩ q => wpAny_pyIter_enum he q⟩
  · rintro i h ⟨⟨old, he⟩, ⟨o, ho, _, hd⟩, _⟩ b hb
    have hb : b = e ∨ b = it := by simpa using hb
    rcases hb with rfl | rfl
    · exact ⟨_, he, fun v z => nomatch z⟩
    · exact ⟨o, ho, fun v z => by rw [hd] at z; cases z⟩
  · rintro i h h' ⟨⟨old, he⟩, hit, hne⟩ kept
    exact ⟨⟨old, kept e (by simp) _ he⟩, hit.at (fun o q => kept it (by simp) o q), hne⟩
  · rintro X rfl rfl rfl hc i pins s σ H E I free ⟨⟨old, he⟩, hit, n1, n2⟩ ⟨xs, x, hq, hx⟩
    obtain ⟨its, rv, tup, _⟩ := I.tuple hq
    obtain ⟨u, hu, ru⟩ := rv.get hx
    have W := walk X.A its.toArray (I.ok.hd hc) n1 n2 (apart he tup)
    have hi : i < its.toArray.size := by simpa using (List.getElem?_eq_some_iff.mp hu).1
    refine W.item i s _ E hi ⟨⟨old, he⟩, hit, tup⟩ fun T vals h1 tk hP hT tupT mid k1 => ⟨_, rfl, W.go elts kk tpos i T _ _ E mid fun h2 st k2 => ?_⟩
    obtain ⟨t, y, hy, rfl⟩ := hP
    have ey : y = u := Option.some.inj (hy.symm.trans (by simpa using hu))
    subst ey
    obtain ⟨⟨old', he'⟩, hit', _⟩ := st
    obtain ⟨oT, gT, cT, nT, dT⟩ := tupT
    have gT2 := k2 T oT (W.apart i T h1 mid) gT
    have lay : ObjOk X.prog X.w (upd H T (.tup [.int ((i : Nat) : Int), x])) h2 T (.tup [.int ((i : Nat) : Int), x]) :=
      ⟨two_fits, _, .cons ⟨t, rfl⟩ (.cons ru .nil), oT, gT2, cT, nT, by rw [dT, Int.zero_add]⟩
    refine ⟨.ref T, _, I.turnedNew (ch := [e, it]) (t' := tk) (fun b o hb q => k2 b o hb (k1 b o hb q)) free hT lay, rfl, ⟨T, x, rfl, I.hok.fresh hT, rfl, fun ys hy => by rw [I.tuple_inj hy hq]; exact hx⟩, ⟨⟨old', he'⟩, hit', n1, n2⟩, fun b hb => ?_⟩
    rw [upd_ne fun z => W.apart i T h1 mid (by rw [← z]; exact hb)]
    exact (free b hb).1
  · rintro X rfl rfl rfl hc i pins s σ H E I free ⟨⟨old, he⟩, hit, n1, n2⟩ ⟨xs, hq, hx⟩
    obtain ⟨its, rv, tup, _⟩ := I.tuple hq
    have W := walk X.A its.toArray (I.ok.hd hc) n1 n2 (apart he tup)
    have hn : i = its.toArray.size := by rw [List.size_toArray, ← rv.length, hx]
    subst hn
    obtain ⟨p0, p1, p2, p3, p4, p5⟩ := free it (by simp)
    exact wpAny_pyNext_enum_endD (Draws.tuple (A := X.A.in1) (I.ok.hd hc) it a n2 its.toArray) he ⟨hit, tup⟩ fun h1 k1 => ⟨rfl, I.turned (t' := s.toks) (fun b o hb q => k1 b o hb q) p0 p1 p3 p4 p5⟩
def iEnumT (K : PySem.W.Frag) (ta : TA) : TI := fun σ H R => ta σ H fun vs H1 => ∃ a xs, vs = [.ref a] ∧ SqT K H1 a xs ∧ R (IteT K a) H1
theorem walk_enumT {K : PySem.W.Frag} {a : Addr} {xs : List V} : Walk (IteT K a) xs.length (fun H => SqT K H a xs) (YPair (fun i => some (.int (i : Nat))) (fun i => xs[i]?)) := by
  refine ⟨fun i _ hi q => ⟨xs, xs[i], q, by simp [hi]⟩, fun _ q => ⟨xs, q, rfl⟩, fun i H v H' _ q y => ?_⟩
  obtain ⟨T, x, h1, h2, h3, h4⟩ := y
  exact ⟨T, .int (i : Nat), x, h1, h2, h3, rfl, h4 xs q⟩
/-- enumerate of a list or of a tuple -/
def iEnumA (K : PySem.W.Frag) (ta : TA) : TI := fun σ H R => ta σ H fun vs H1 => (∃ a xs, vs = [.ref a] ∧ SqL K H1 a xs ∧ R (Ite K a) H1) ∨ (∃ a xs, vs = [.ref a] ∧ SqT K H1 a xs ∧ R (IteT K a) H1)
theorem meets_enum1 {v : Value} {o : Obj} {J : Heap → Prop} (B : Begins v o J) :
    Meets (Builtin.«enumerate.__new__» ⟨[.type "enumerate", v], []⟩) (fun _ R s => J s.heap ∧
      R (.ok (.ret (.ref (s.heap.push o).objs.size))) { s with heap := (s.heap.push o).push { cls := .type "enumerate", data := .fields #[.none, .bool false, .ref s.heap.objs.size, rawInt 0, .none, .none] } }) :=
  .of_wp fun prog w A R s h => by
    obtain ⟨hp, g, d, tk, os⟩ := s
    obtain ⟨h1, h⟩ := h
    have hsub := sub_enumerate
    have step : ∀ {A' : Around} {E : Value → Shared → Prop} {Q : Value → Shared → Prop}, Q (.ref hp.objs.size) ⟨hp.push o, g, d, tk, os⟩ → wpAny (model prog w) A' (pyIter v) Q E ⟨hp, g, d, tk, os⟩ :=
      fun q => B.iter prog w _ _ ⟨hp, g, d, tk, os⟩ _ h1 q
    wp_walk using step
    refine wpAny_stack_any fun st => wpAny_pure ?_
    split
    · rename_i c _ _ _ _ _
      cases (c == Value.type "enumerate") <;> (wp_walk using step; exact ⟨_, rfl, h⟩)
    · wp_walk using step
      exact ⟨_, rfl, h⟩
theorem call_enum1 {prog : Program} {w : World} {A : Around} {E : Value → Shared → Prop} {s : Shared} {v : Value} {o : Obj} {J : Heap → Prop} {Q : Value → Shared → Prop} (B : Begins v o J) (h1 : J s.heap)
    (h : ∀ h', IsEnum h' (s.heap.objs.size + 1) s.heap.objs.size 0 .none → h'.get? s.heap.objs.size = some o → (∀ b o, s.heap.get? b = some o → h'.get? b = some o) → Q (.ref (s.heap.objs.size + 1)) { s with heap := h' }) :
    wpAny (model prog w) A (call (.type "enumerate") [v]) Q E s := by
  refine callType_new F.called_enumerate (by decide) (F.typeCall_enumerate_1 _) (F.newCall_enumerate_1 _) (fun obj => F.args_object_init_2 obj _) F.entry_enumerate_new (meets_enum1 B) ⟨h1, ?_⟩
  have hz : (s.heap.push o).objs.size = s.heap.objs.size + 1 := Heap.size_push ..
  show _ ∧ _
  rw [hz]
  have he : IsEnum ((s.heap.push o).push { cls := .type "enumerate", data := .fields #[.none, .bool false, .ref s.heap.objs.size, rawInt 0, .none, .none] }) (s.heap.objs.size + 1) s.heap.objs.size 0 .none := by
    have q := Heap.get?_push_size (s.heap.push o) (o := { cls := .type "enumerate", data := .fields #[.none, .bool false, .ref s.heap.objs.size, rawInt 0, .none, .none] }) rfl
    rw [hz] at q; exact q
  exact ⟨⟨_, he, rfl⟩, h _ he (Heap.get?_push_of_some _ (Heap.get?_push_size _ B.free)) fun b o x => Heap.get?_push_of_some _ (Heap.get?_push_of_some _ x)⟩
theorem pi_enumA {X : Cx} {e : Expr} {ta : TA} {p pos tpos : Pos} {elts : List Expr} {kk : Nat} (hg : Gl X "enumerate") (hm : X.mg "enumerate" = none) (ha : PA X [e] ta) (hs : starEach [e] X.env = [(false, eval e X.env)] := by rfl) :
    PI X (.Tuple elts kk tpos) (.Call (.Name "enumerate" p) [e] [] pos) (iEnumA X.K ta) := ⟨fun pins s σ H R I h => by
  refine Call_ (ld_blt I hg hm boot_enumerate (PyProof.Rows.callWith_type1 (thn (ha.run pos pins s σ H _ I h) fun us s1 ⟨vs, H1, I1, r1, q1⟩ => ?_) hs rfl))
  have two : ∀ b ∈ [s1.heap.objs.size + 1, s1.heap.objs.size], FpOk X pins H1 b := fun b hb => by
    have hle : s1.heap.objs.size ≤ b := by
      rcases List.mem_cons.mp hb with z | z
      · omega
      · have := List.mem_singleton.mp z; omega
    exact I1.fpOk hle (I1.hok.fresh hle)
  rcases q1 with ⟨a, xs, rfl, hq, q⟩ | ⟨a, xs, rfl, hq, q⟩
  · obtain ⟨u, rfl, ru⟩ := vals1 r1
    cases ru
    obtain ⟨its, rv, p', hz⟩ := I1.list hq
    refine call_enumerate_list p'.isList fun h' he hit hsz hk => wpAny_pyIter_enum he ?_
    exact ⟨s1.heap.objs.size + 1, _, _, _, H1, rfl, I1.kept (t' := s1.toks) hk, turn_enum a (s1.heap.objs.size + 1) s1.heap.objs.size, ⟨⟨.none, he⟩, hit, Nat.succ_ne_self _⟩, two, q⟩
  · obtain ⟨u, rfl, ru⟩ := vals1 r1
    cases ru
    obtain ⟨its, rv, p', hz⟩ := I1.tuple hq
    have hal : a < s1.heap.objs.size := by
      obtain ⟨o, ho, _⟩ := p'
      exact Heap.lt_size ho
    refine call_enum1 (begins_tuple a its.toArray) (show s1.heap.IsTuple a its.toArray from p') fun h' he hit hk => wpAny_pyIter_enum he ?_
    exact ⟨s1.heap.objs.size + 1, _, _, _, H1, rfl, I1.kept (t' := s1.toks) hk, turn_enumT a (s1.heap.objs.size + 1) s1.heap.objs.size, ⟨⟨.none, by rw [show (0 : Int) + ((0 : Nat) : Int) = 0 from rfl]; exact he⟩, ⟨_, hit, rfl, rfl⟩, Nat.succ_ne_self _, Nat.ne_of_lt hal⟩, two, q⟩⟩
/-- a list, a tuple, a text: whatever it is -/
def iAny (K : PySem.W.Frag) (tl : TE) : TI := fun σ H R => tl σ H fun x H1 => (∃ a, x = .ref a ∧ (∃ xs, SqL K H1 a xs) ∧ R (Itl K a) H1) ∨ (∃ a, x = .ref a ∧ (∃ xs, SqT K H1 a xs) ∧ R (Itt K a) H1) ∨ (∃ z, x = .str z ∧ R (Its z) H1)
/-- a reading that gives this value at this heap -/
theorem pi_any {X : Cx} {tg l : Expr} {tl : TE} (hl : PE X l tl) : PI X tg l (iAny X.K tl) := ⟨fun pins s σ H R I h => by
  refine thn (hl.run pins s σ H _ I h) fun v s1 ⟨x, H1, I1, r1, q1⟩ => ?_
  have one : ∀ b ∈ [s1.heap.objs.size], FpOk X pins H1 b := fun b hb => by
    rw [List.mem_singleton.mp hb]
    exact I1.fpOk (Nat.le_refl _) (I1.hok.fresh (Nat.le_refl _))
  have kp : ∀ ob : Obj, Inv X pins σ H1 { s1 with heap := s1.heap.push ob } := fun ob => I1.kept (t' := s1.toks) fun b o e => Heap.get?_push_of_some _ e
  rcases q1 with ⟨a, rfl, ⟨xs, hq⟩, q⟩ | ⟨a, rfl, ⟨xs, hq⟩, q⟩ | ⟨z, rfl, q⟩
  · cases r1
    obtain ⟨its, rv, p, hz⟩ := I1.list hq
    exact wpAny_pyIter_list p.isList ⟨_, [_], _, _, H1, rfl, kp _, turn_list a _, ⟨_, Heap.get?_push_size _ rfl, rfl, rfl⟩, one, q⟩
  · cases r1
    obtain ⟨its, rv, p, hz⟩ := I1.tuple hq
    exact wpAny_pyIter_tuple (show s1.heap.IsTuple a its.toArray from p) ⟨_, [_], _, _, H1, rfl, kp _, turn_tuple a _, ⟨_, Heap.get?_push_size _ rfl, rfl, rfl⟩, one, q⟩
  · obtain ⟨t, rfl⟩ := r1
    exact wpAny_pyIter_strU ⟨_, [_], _, _, H1, rfl, kp _, turn_str _ z t (strIterType z) (by unfold strIterType; split <;> simp), ⟨_, Heap.get?_push_size _ rfl, rfl, rfl⟩, one, q⟩⟩
end L2

set_option Elab.async false
set_option linter.all false
set_option maxRecDepth 100000
set_option autoImplicit false
set_option maxHeartbeats 2000000
namespace DL
open PySem PySem.Spec L2

/-! ## what is walked -/
/-- the yields, what must stay of the state while it goes on -/
abbrev DTI := DSt → (List DY → (DSt → Prop) → DSt → Prop) → Prop
section
variable (P : Program) (w : World) (K : PySem.W.Frag)
def SndI (wi : TI) (di : DTI) : Prop := ∀ (B : Bs) (S : DSt) (σ : L2.St) (ts : List (V × DV)) (H : Hp) (R : List DY → (DSt → Prop) → DSt → Prop) (Q : It → Hp → Prop), StOk P w K B S σ ts H → di S R →
  (∀ (ys : List DY) (St : DSt → Prop) (S1 : DSt) (H1 : Hp) (J : It) (G : Hp → Prop) (Y : Nat → Hp → V → Hp → Prop) (us : List (V × DV)), R ys St S1 → StOk P w K B S1 σ (us ++ ts) H1 → Walk J ys.length G Y →
    (∀ B2 S2 σ2 H2 vs, (∀ p ∈ us, p ∈ vs) → St S2 → StOk P w K B2 S2 σ2 vs H2 → G H2) →
    (∀ B2 i S2 σ2 H2 x H3 vs, i < ys.length → (∀ p ∈ us, p ∈ vs) → St S2 → StOk P w K B2 S2 σ2 vs H2 → Y i H2 x H3 → ∃ y, ys[i]? = some y ∧ StY P w K B2 S2 σ2 vs H3 x y) → Q J H1) → wi σ H Q
end
structure DI (X : Cx) (tg iter : Expr) (di : DTI) : Prop where
  ex : ∃ wi, PI X tg iter wi ∧ SndI X.prog X.w X.K wi di

/-! ## for, while, comprehensions -/
def dFor (di : DTI) (dg : DTG) (db : DTS) : DTS := fun D S => di S fun ys St S1 => ∃ I : Nat → DSt → Prop, I 0 S1 ∧ (∀ i S2, i ≤ ys.length → I i S2 → St S2) ∧
  (∀ i y S2, ys[i]? = some y → I i S2 → dg y S2 fun S3 => db { D with nx := I (i + 1), ct := I (i + 1), bk := D.nx } S3) ∧ ∀ S2, I ys.length S2 → D.nx S2
def dWhile (dc : DTT) (db : DTS) : DTS := fun D S => ∃ I : Nat → DSt → Prop, (∃ m, I m S) ∧ ∀ m S1, I m S1 → dc S1 fun b S2 => if b = true then db { D with nx := fun S3 => ∃ m', m' < m ∧ I m' S3, ct := fun S3 => ∃ m', m' < m ∧ I m' S3, bk := D.nx } S2 else D.nx S2
def wipeD (ρ : List (Option DV)) : List Nat → List (Option DV)
  | [] => ρ
  | v :: vs => (wipeD ρ vs).set v none
def dTts : DTT := fun S R => R true S
def dLcP (di : DTI) (dg : DTG) (dt : DTT) (de : DTE) (vs : List Nat) (S : DSt) (R : List PyData → DSt → Prop) : Prop := di S fun ys St S1 => ∃ I : Nat → List PyData → List (Option DO) → Prop, I 0 [] S1.μ ∧ (∀ i acc μ, i ≤ ys.length → I i acc μ → St ⟨wipeD S1.ρ vs, μ⟩) ∧
  (∀ i y acc μ, ys[i]? = some y → I i acc μ → dg y ⟨wipeD S1.ρ vs, μ⟩ fun S3 => dt S3 fun b S4 => if b = true then de S4 fun d S5 => match d.imm? with
    | some p => I (i + 1) (acc ++ [p]) S5.μ
    | none => False else I (i + 1) acc S4.μ) ∧ ys.length < sizeLine ∧ ∀ acc μ, I ys.length acc μ → R acc ⟨S1.ρ, μ⟩
def dLc (di : DTI) (dg : DTG) (dt : DTT) (de : DTE) (vs : List Nat) : DTE := fun S R => dLcP di dg dt de vs S fun acc S1 => R (.imm (.list acc)) S1
/-- the new list becomes a cell -/
def dLcC (di : DTI) (dg : DTG) (dt : DTT) (de : DTE) (vs : List Nat) : DTE := fun S R => dLcP di dg dt de vs S fun acc S1 => R (.cell S1.μ.length) (S1.new (.lst (acc.map DV.imm)))

section
variable {P : Program} {w : World} {K : PySem.W.Frag} {B : Bs} {S S' : DSt} {σ : L2.St} {ts : List (V × DV)} {H F F' : Hp} {α : List Addr} {v : V} {d : DV} {wi : TI} {di : DTI} {g : TG} {dg : DTG} {tb : TS} {db : DTS} {js : List Nat}
theorem snd_for (hi : SndI P w K wi di) (hg : SndG P w K js g dg) (hb : SndS P w K tb db) : SndS P w K (tFor wi g tb) (dFor di dg db) := fun B S σ ts H D G h hd l =>
  hi B S σ ts H _ _ h hd fun ys St S1 H1 J Gp Y us hr o wk hG hY => by
    obtain ⟨I, h0, hst, hs, hdn⟩ := hr
    refine for_it wk (fun i σ2 H2 => ∃ S2, I i S2 ∧ StOk P w K B S2 σ2 (us ++ ts) H2) ⟨S1, h0, o⟩ (fun i σ2 H2 hi' ⟨S2, q, o2⟩ => hG B S2 σ2 H2 _ (fun p hp => List.mem_append_left _ hp) (hst i S2 hi' q) o2) (fun i x σ2 H2 H3 hi' ⟨S2, q, o2⟩ y => ?_) (fun σ2 H2 ⟨S2, q, o2⟩ => l.nx S2 σ2 H2 (hdn S2 q) (o2.sub fun p hp => List.mem_append_right _ hp))
    obtain ⟨yy, e1, sy⟩ := hY B i S2 σ2 H2 x H3 _ hi' (fun p hp => List.mem_append_left _ hp) (hst i S2 (Nat.le_of_lt hi') q) o2 y
    refine hg B S2 σ2 (us ++ ts) H3 x yy _ _ sy (hs i yy S2 e1 q) fun S3 σ3 H4 q3 _ _ o3 => ?_
    refine hb B S3 σ3 (us ++ ts) H4 _ _ o3 q3 ⟨fun S4 σ4 H5 q4 o4 => ⟨S4, q4, o4⟩, fun v d S4 σ4 H5 q4 o4 => l.rt v d S4 σ4 H5 q4 (o4.sub fun p hp => ?_), fun S4 σ4 H5 q4 o4 => l.nx S4 σ4 H5 q4 (o4.sub fun p hp => List.mem_append_right _ hp), fun S4 σ4 H5 q4 o4 => ⟨S4, q4, o4⟩⟩
    rcases List.mem_cons.mp hp with e | hp
    · subst e; exact List.mem_cons_self
    · exact List.mem_cons_of_mem _ (List.mem_append_right _ hp)
theorem snd_while {tc : TT} {dc : DTT} (hc : SndT P w K tc dc) (hb : SndS P w K tb db) : SndS P w K (tWhile tc tb) (dWhile dc db) := fun B S σ ts H D G h hd l => by
  obtain ⟨I, ⟨m0, h0⟩, hs⟩ := hd
  refine ⟨fun m σ2 H2 => ∃ S2, I m S2 ∧ StOk P w K B S2 σ2 ts H2, ⟨m0, S, h0, h⟩, fun m σ2 H2 ⟨S2, q, o⟩ => hc B S2 σ2 ts H2 _ _ o (hs m S2 q) fun b S3 H3 q3 o3 => ?_⟩
  cases b with
  | false => exact l.nx S3 σ2 H3 q3 o3
  | true =>
    refine ⟨fun σ4 H4 => ∃ m', m' < m ∧ ∃ S4, I m' S4 ∧ StOk P w K B S4 σ4 ts H4, fun σ4 H4 z => z, hb B S3 σ2 ts H3 _ _ o3 q3 ⟨fun S4 σ4 H4 ⟨m', e, q4⟩ o4 => ⟨m', e, S4, q4, o4⟩, l.rt, l.nx, fun S4 σ4 H4 ⟨m', e, q4⟩ o4 => ⟨m', e, S4, q4, o4⟩⟩⟩
theorem wipeD_get {ρ : List (Option DV)} {σ : L2.St} : ∀ (vs : List Nat) (i : Nat) (d : DV), (wipeD ρ vs)[i]? = some (some d) → i ∉ vs ∧ ρ[i]? = some (some d) ∧ (wipe σ vs)[i]? = σ[i]?
  | [], i, d, h => ⟨by simp, h, rfl⟩
  | v :: vs, i, d, h => by
    have h' : ((wipeD ρ vs).set v none)[i]? = some (some d) := h
    by_cases c : v = i
    · subst c
      by_cases hv : v < (wipeD ρ vs).length
      · rw [List.getElem?_set_self hv] at h'; cases h'
      · rw [List.getElem?_eq_none (by rw [List.length_set]; omega)] at h'; cases h'
    · rw [List.getElem?_set_ne c] at h'
      obtain ⟨h1, h2, h3⟩ := wipeD_get vs i d h'
      refine ⟨fun q => ?_, h2, ?_⟩
      · rcases List.mem_cons.mp q with e | e
        · exact c e.symm
        · exact h1 e
      · show ((wipe σ vs).set v none)[i]? = σ[i]?
        rw [List.getElem?_set_ne c]; exact h3
theorem wipeD_length (ρ : List (Option DV)) : ∀ vs : List Nat, (wipeD ρ vs).length = ρ.length
  | [] => rfl
  | v :: vs => by show ((wipeD ρ vs).set v none).length = _; rw [List.length_set, wipeD_length ρ vs]
theorem StAt.slots {ρ' : List (Option DV)} {σ' : L2.St} (h : StAt P w K B S σ ts H F α) (hl : ρ'.length = σ'.length) (hs : ∀ (i : Nat) (d : DV), ρ'[i]? = some (some d) → ∃ v, σ'[i]? = some (some v) ∧ VOk P w K F α v d) : StAt P w K B ⟨ρ', S.μ⟩ σ' ts H F α :=
  ⟨h.fh, h.bh, h.bf, h.bc, h.bp, h.bn, h.nd, h.al, h.an, hl, hs, h.tm, h.ce⟩
theorem StAt.wipe (h : StAt P w K B S σ ts H F α) (vs : List Nat) : StAt P w K B ⟨wipeD S.ρ vs, S.μ⟩ (L2.wipe σ vs) ts H F α :=
  h.slots (by rw [wipeD_length, wipe_length, h.len]) fun i d q => by
    obtain ⟨_, h2, h3⟩ := wipeD_get (σ := σ) vs i d q
    obtain ⟨v, g1, g2⟩ := h.sl i d h2
    exact ⟨v, h3.trans g1, g2⟩
/-- an object that is not known yet grows -/
theorem StAt.free (h : StAt P w K B S σ ts H F α) {p : Addr} {o : HO} (hp : p ∉ α) (hF : F p = none) (hB : B.H p = none) : StAt P w K B S σ ts (upd H p o) F α := by
  have ne : ∀ {a : Addr}, a ∈ α → a ≠ p := fun q e => hp (e ▸ q)
  refine ⟨fun a v q => ?_, h.bh, h.bf, fun a v q1 q2 q3 => ?_, h.bp, h.bn, h.nd, h.al, fun a q => ?_, h.len, h.sl, h.tm, fun k v q => ?_⟩
  · have c : a ≠ p := fun e => by rw [e, hF] at q; cases q
    rw [upd_ne c]; exact h.fh a v q
  · obtain ⟨h1, h2, h3⟩ := h.bc a v q1 q2 q3
    have c : a ≠ p := fun e => by rw [e, hB] at q1; cases q1
    exact ⟨by rw [upd_ne c]; exact h1, h2, h3⟩
  · rw [upd_ne (ne q)]; exact h.an a q
  · obtain ⟨a, h1, h2, h3⟩ := h.ce k v q
    have c := ne (List.mem_of_getElem? h1)
    exact ⟨a, h1, h2, h3.up0 (Ex.refl _) (upd_ne c)⟩
/-- the state as a base of its own, and back -/
theorem StAt.base (h : StAt P w K B S σ ts H F α) : StAt P w K ⟨F, H, α⟩ S σ ts H F α :=
  ⟨h.fh, h.fh, Ex.refl _, fun a o q1 q2 q3 => ⟨q1, q2, q3⟩, List.take_length, fun a q => .inl q, h.nd, h.al, h.an, h.len, h.sl, h.tm, h.ce⟩
theorem StAt.rebase {σ' : L2.St} {ts' : List (V × DV)} {H' : Hp} {β : List Addr} (h : StAt P w K B S σ ts H F α) (h' : StAt P w K ⟨F, H, α⟩ S' σ' ts' H' F' β) : StAt P w K B S' σ' ts' H' F' β := by
  have hbl : B.ps.length ≤ α.length := by
    have := congrArg List.length h.bp
    rw [List.length_take] at this
    omega
  refine ⟨h'.fh, h.bh, h.bf.trans h'.bf, fun a o q1 q2 q3 => ?_, ?_, fun a q => ?_, h'.nd, h'.al, h'.an, h'.len, h'.sl, h'.tm, h'.ce⟩
  · obtain ⟨h1, h2, h3⟩ := h.bc a o q1 q2 q3
    exact h'.bc a o h1 h2 h3
  · have e : β.take α.length = α := h'.bp
    have e2 : β.take B.ps.length = α.take B.ps.length := by
      rw [← e, List.take_take, Nat.min_eq_left hbl]
    rw [e2, h.bp]
  · rcases h'.bn a q with z | z
    · exact h.bn a z
    · exact .inr (h.freshB z)
/-- what was known goes on to be -/
theorem StAt.known {σ' : L2.St} {ts' : List (V × DV)} {H' : Hp} {β : List Addr} (h' : StAt P w K ⟨F, H, α⟩ S' σ' ts' H' F' β) (hv : VOk P w K F α v d) : VOk P w K F' β v d := by
  have e : β.take α.length = α := h'.bp
  have := VOk.up (β := β.drop α.length) h'.bf hv
  have e3 := List.take_append_drop α.length β
  rw [e] at e3
  rwa [e3] at this
theorem wipe_none (σ : L2.St) (j : Nat) : ∀ vs : List Nat, j ∈ vs → (wipe σ vs).set j none = wipe σ vs
  | v :: vs, h => by
    show ((wipe σ vs).set v none).set j none = (wipe σ vs).set v none
    by_cases c : v = j
    · subst c; rw [List.set_set]
    · rw [List.set_comm _ _ c, wipe_none σ j vs (by
        rcases List.mem_cons.mp h with e | e
        · exact absurd e.symm c
        · exact e)]
theorem wipe_wipe (σ : L2.St) (vs : List Nat) : ∀ us : List Nat, (∀ u ∈ us, u ∈ vs) → wipe (wipe σ vs) us = wipe σ vs
  | [], _ => rfl
  | u :: us, h => by
    show (wipe (wipe σ vs) us).set u none = wipe σ vs
    rw [wipe_wipe σ vs us fun z hz => h z (List.mem_cons_of_mem _ hz), wipe_none σ u vs (h u List.mem_cons_self)]
theorem rp_of_zip {F : Hp} : ∀ {xs : List V} {ps : List PyData}, xs.length = ps.length → (∀ p ∈ xs.zip (ps.map DV.imm), VOk P w K F α p.1 p.2) → RpAll P w K F xs ps
  | [], [], _, _ => .nil
  | [], _ :: _, h, _ => by simp at h
  | _ :: _, [], h, _ => by simp at h
  | x :: xs, p :: ps, h, q => .cons (q (x, .imm p) (by simp)) (rp_of_zip (by simpa using h) fun z hz => q z (by simp [hz]))
theorem snd_lcP {tt : TT} {dt : DTT} {te : TE} {de : DTE} {vs : List Nat} (hi : SndI P w K wi di) (hg : SndG P w K js g dg) (ht : SndT P w K tt dt) (he : SndE P w K te de) (hj : ∀ j ∈ js, j ∈ vs) :
    ∀ (B : Bs) (S : DSt) (σ : L2.St) (ts : List (V × DV)) (H : Hp) (R : List PyData → DSt → Prop) (Q : VK), StOk P w K B S σ ts H → dLcP di dg dt de vs S R →
    (∀ (D : Addr) acc ps S' H' F α, R ps S' → StAt P w K B S' σ ts H' F α → H' D = some (.lst acc) → F D = none → D ∉ α → B.H D = none → RpAll P w K F acc ps → Q (.ref D) H') → tLc wi g tt te vs σ H Q := fun B S σ ts H R Q h hd k =>
  hi B S σ ts H _ _ h hd fun ys St S1 H1 J Gp Y us hr o wk hG hY => by
    obtain ⟨I, h0, hst, hs, hz, hdn⟩ := hr
    obtain ⟨F1, α1, o1⟩ := o
    intro D hD
    have b1 := o1.base
    have hF1 : F1 D = none := o1.freeF hD
    have hα1 : D ∉ α1 := fun q => o1.an D q hD
    let ρw := wipeD S1.ρ vs
    let B1 : Bs := ⟨F1, H1, α1⟩
    refine lc_it wk (fun i H2 => ∃ acc ps μ F α, I i ps μ ∧ acc.length = ps.length ∧ acc.length ≤ i ∧ StAt P w K B1 ⟨ρw, μ⟩ (wipe σ vs) (acc.zip (ps.map DV.imm) ++ (us ++ ts)) H2 F α ∧ H2 D = some (.lst acc) ∧ F D = none ∧ D ∉ α)
      ⟨[], [], S1.μ, F1, α1, h0, rfl, Nat.le_refl _, ((b1.wipe vs).free hα1 hF1 hD), upd_same, hF1, hα1⟩ ?_ ?_ ?_
    · rintro i H2 hi' ⟨acc, ps, μ, F, α, q, hl, _, o2, _, _, _⟩
      exact hG B1 _ (wipe σ vs) H2 _ (fun p hp => List.mem_append_right _ (List.mem_append_left _ hp)) (hst i ps μ hi' q) o2.ok
    · rintro i x H2 H3 hi' ⟨acc, ps, μ, F, α, q, hl, hli, o2, hD2, hF2, hα2⟩ y
      have b2 := o2.base
      obtain ⟨yy, e1, sy⟩ := hY ⟨F, H2, α⟩ i ⟨ρw, μ⟩ (wipe σ vs) H2 x H3 _ hi' (fun p hp => List.mem_append_right _ (List.mem_append_left _ hp)) (hst i ps μ (Nat.le_of_lt hi') q) b2.ok y
      refine hg _ _ _ _ H3 x yy _ _ sy (hs i yy ps μ e1 q) fun S3 σ3 H4 q3 _ hw o3 => ⟨?_, ?_⟩
      · rw [hw vs hj, wipe_wipe σ vs vs fun _ z => z]
      · refine ht _ S3 σ3 _ H4 _ _ o3 q3 fun b S4 H5 q4 o4 => ?_
        cases b with
        | false =>
          obtain ⟨F5, α5, o5⟩ := o4
          obtain ⟨d1, d2, d3⟩ := o5.bc D _ hD2 hF2 hα2
          have o6 := o2.rebase o5
          refine ⟨acc, ps, S4.μ, F5, α5, q4, hl, Nat.le_succ_of_le hli, o6.slots (o2.len) (fun j e r => ?_), d1, d2, d3⟩
          obtain ⟨v, g1, g2⟩ := o2.sl j e r
          exact ⟨v, g1, o5.known g2⟩
        | true =>
          refine he _ S4 σ3 _ H5 _ _ o4 q4 fun y' d' S5 H6 q5 o5 => ?_
          obtain ⟨F6, α6, o6⟩ := o5
          obtain ⟨d1, d2, d3⟩ := o6.bc D _ hD2 hF2 hα2
          have o7 := o2.rebase o6
          refine ⟨acc, d1, ?_, ?_⟩
          · exact Nat.lt_of_le_of_lt hli (Nat.lt_trans hi' hz)
          cases e5 : d'.imm? with
          | none => rw [e5] at q5; exact q5.elim
          | some p =>
            rw [e5] at q5
            refine ⟨acc ++ [y'], ps ++ [p], S5.μ, F6, α6, q5, by simp [hl], by rw [List.length_append, List.length_singleton]; omega, ?_, upd_same, d2, d3⟩
            have o8 : StAt P w K B1 ⟨ρw, S5.μ⟩ (wipe σ vs) _ H6 F6 α6 := o7.slots (o2.len) fun j e r => by
              obtain ⟨v, g1, g2⟩ := o2.sl j e r
              exact ⟨v, g1, o6.known g2⟩
            refine (o8.free d3 d2 hD).sub fun z hz' => ?_
            rw [imm?_eq e5]
            rw [List.map_append, List.zip_append (by rw [List.length_map]; exact hl)] at hz'
            rcases List.mem_append.mp hz' with hz' | hz'
            · rcases List.mem_append.mp hz' with hz' | hz'
              · exact List.mem_cons_of_mem _ (List.mem_append_left _ hz')
              · have e6 : z = (y', .imm p) := by simpa using hz'
                rw [e6]; exact List.mem_cons_self
            · exact List.mem_cons_of_mem _ (List.mem_append_right _ hz')
    · rintro H2 ⟨acc, ps, μ, F, α, q, hl, _, o2, hD2, hF2, hα2⟩
      have rr : RpAll P w K F acc ps := rp_of_zip hl fun p hp => o2.tm p (List.mem_append_left _ hp)
      have o3 : StAt P w K B1 ⟨S1.ρ, μ⟩ σ (us ++ ts) H2 F α := (o2.sub fun p hp => List.mem_append_right _ hp).slots o1.len fun j e r => by
        obtain ⟨v, g1, g2⟩ := o1.sl j e r
        exact ⟨v, g1, o2.known g2⟩
      have o4 := o1.rebase o3
      exact k D acc ps _ H2 F α (hdn ps μ q) (o4.sub fun p hp => List.mem_append_right _ hp) hD2 hF2 hα2 (o1.freshB hD) rr
/-- a list that nobody holds is frozen -/
theorem StAt.frzNew {D : Addr} {acc : List V} {ps : List PyData} (o4 : StAt P w K B S σ ts H F α) (hD2 : H D = some (.lst acc)) (hF2 : F D = none) (hα2 : D ∉ α) (hB : B.H D = none) (rr : RpAll P w K F acc ps) :
    StAt P w K B S σ ((.ref D, .imm (.list ps)) :: ts) H (upd F D (.lst acc)) α := by
  have e : Ex F (upd F D (.lst acc)) := Ex.new hF2
  refine ⟨fun b v z => ?_, o4.bh, o4.bf.trans e, fun b v q1 q2 q3 => ?_, o4.bp, o4.bn, o4.nd, o4.al, o4.an, o4.len, fun i d z => ?_, fun z hz' => ?_, fun j v z => ?_⟩
  · by_cases c : b = D
    · subst c; rw [upd_same] at z; cases z; exact hD2
    · rw [upd_ne c] at z; exact o4.fh b v z
  · obtain ⟨h1, h2, h3⟩ := o4.bc b v q1 q2 q3
    have c : b ≠ D := fun z => by rw [z, hB] at q1; cases q1
    exact ⟨h1, by rw [upd_ne c]; exact h2, h3⟩
  · obtain ⟨v, h1, h2⟩ := o4.sl i d z
    exact ⟨v, h1, h2.up0 e⟩
  · rcases List.mem_cons.mp hz' with c | hz'
    · subst c; exact Rp.lst upd_same (rr.up e)
    · exact (o4.tm z hz').up0 e
  · obtain ⟨b, h1, h2, h3⟩ := o4.ce j v z
    have c : b ≠ D := fun z => hα2 (z ▸ List.mem_of_getElem? h1)
    exact ⟨b, h1, by rw [upd_ne c]; exact h2, h3.up0 e rfl⟩
theorem snd_lc {tt : TT} {dt : DTT} {te : TE} {de : DTE} {vs : List Nat} (hi : SndI P w K wi di) (hg : SndG P w K js g dg) (ht : SndT P w K tt dt) (he : SndE P w K te de) (hj : ∀ j ∈ js, j ∈ vs) :
    SndE P w K (tLc wi g tt te vs) (dLc di dg dt de vs) := fun B S σ ts H R Q h hd k =>
  snd_lcP hi hg ht he hj B S σ ts H _ Q h hd fun D acc ps S' H' F α r o h1 h2 h3 h4 rr => k _ _ S' H' r (o.frzNew h1 h2 h3 h4 rr).ok
end

/-! ## the walks -/
section
variable {P : Program} {w : World} {K : PySem.W.Frag} {B : Bs} {S S' : DSt} {σ : L2.St} {ts : List (V × DV)} {H F F' : Hp} {α : List Addr} {v : V} {d : DV}
theorem pget {V1 D1 : Type} {r : V1 → D1 → Prop} : ∀ {xs : List V1} {ds : List D1} (i : Nat) {x : V1}, Paired r xs ds → xs[i]? = some x → ∃ d, ds[i]? = some d ∧ r x d
  | _, _, _, _, .nil, h => by simp at h
  | _, _, 0, x, .cons h _, e => by simp at e; subst e; exact ⟨_, rfl, h⟩
  | _, _, i + 1, x, .cons _ t, e => by
    obtain ⟨d, h1, h2⟩ := pget i t (by simpa using e)
    exact ⟨d, by simpa using h1, h2⟩
/-- what a list, a tuple, a text yields; a cell must keep its items -/
def DSt.items (S : DSt) (d : DV) : Option (List DV × (DSt → Prop)) :=
  match d with
  | .cell k => match S.cell k with
    | some (.lst ds) => some (ds, fun S' => S'.cell k = some (.lst ds))
    | _ => none
  | _ => match S.seq d with
    | some (_, ds) => some (ds, fun _ => True)
    | none => match d.str? with
      | some z => some (z.cps.toList.map fun c => dS ⟨#[c]⟩, fun _ => True)
      | none => none
def diAny (de : DTE) : DTI := fun S R => de S fun d S1 => match S1.items d with
  | some (ds, St) => R (ds.map DY.one) St S1
  | none => False
theorem snd_any {te : TE} {de : DTE} (he : SndE P w K te de) : SndI P w K (iAny K te) (diAny de) := fun B S σ ts H R Q h hd k =>
  he B S σ ts H _ _ h hd fun x dx S1 H1 q o => by
    cases e : S1.items dx with
    | none => rw [e] at q; exact q.elim
    | some p =>
      obtain ⟨ds, St⟩ := p
      rw [e] at q
      have go : ∀ (b : Bool), (∀ (B2 : Bs) (S2 : DSt) (σ2 : L2.St) (H2 : Hp) (vs : List (V × DV)), (x, dx) ∈ vs → St S2 → StOk P w K B2 S2 σ2 vs H2 → S2.seq dx = some (b, ds)) → St S1 →
          (∃ a, x = .ref a ∧ (∃ xs, SqL K H1 a xs) ∧ Q (Itl K a) H1) ∨ (∃ a, x = .ref a ∧ (∃ xs, SqT K H1 a xs) ∧ Q (Itt K a) H1) := fun b hk hs1 => by
        obtain ⟨F, α, o1⟩ := o
        obtain ⟨a, xs, rfl, hq, hp⟩ := o1.seq o1.top (hk B S1 σ H1 _ (by simp) hs1 o1.ok)
        have hl : xs.length = (ds.map DY.one).length := by rw [List.length_map]; exact Paired.length hp
        have same : ∀ (B2 : Bs) (S2 : DSt) (σ2 : L2.St) (H2 : Hp) (vs : List (V × DV)), (V.ref a, dx) ∈ vs → St S2 → ∀ F2 α2, StAt P w K B2 S2 σ2 vs H2 F2 α2 → ∃ zs, (if b = true then SqL K H2 a zs else SqT K H2 a zs) ∧ Paired (VOk P w K F2 α2) zs ds := fun B2 S2 σ2 H2 vs hv hs2 F2 α2 o2 => by
          obtain ⟨a', zs, e1, e2, e3⟩ := o2.seq (o2.tm _ hv) (hk B2 S2 σ2 H2 vs hv hs2 o2.ok)
          cases e1
          exact ⟨zs, e2, e3⟩
        cases b with
        | true =>
          refine .inl ⟨a, rfl, ⟨xs, hq⟩, k (ds.map DY.one) St S1 H1 (Itl K a) (fun H2 => ∃ zs, SqL K H2 a zs ∧ zs.length = ds.length) (fun i H2 v H3 => H3 = H2 ∧ ∀ zs, SqL K H2 a zs → zs[i]? = some v) [(.ref a, dx)] q o1.ok ⟨fun i H2 hi ⟨zs, z1, z2⟩ => ⟨zs, zs[i]'(by rw [z2]; simpa using hi), z1, by simp [z2, show i < ds.length by simpa using hi]⟩, fun H2 ⟨zs, z1, z2⟩ => ⟨zs, z1, by rw [z2, List.length_map]; exact Nat.le_refl _⟩, fun i H2 v H3 hi _ y => y⟩ (fun B2 S2 σ2 H2 vs hv hs2 ⟨F2, α2, o2⟩ => ?_) (fun B2 i S2 σ2 H2 v H3 vs hi hv hs2 ⟨F2, α2, o2⟩ y => ?_)⟩
          · obtain ⟨zs, z1, z2⟩ := same B2 S2 σ2 H2 vs (hv _ (by simp)) hs2 F2 α2 o2
            exact ⟨zs, z1, Paired.length z2⟩
          · obtain ⟨zs, z1, z2⟩ := same B2 S2 σ2 H2 vs (hv _ (by simp)) hs2 F2 α2 o2
            obtain ⟨rfl, y⟩ := y
            obtain ⟨d, d1, d2⟩ := pget i z2 (y zs z1)
            exact ⟨.one d, by rw [List.getElem?_map, d1]; rfl, F2, α2, o2, d2⟩
        | false =>
          refine .inr ⟨a, rfl, ⟨xs, hq⟩, k (ds.map DY.one) St S1 H1 (Itt K a) (fun H2 => ∃ zs, SqT K H2 a zs ∧ zs.length = ds.length) (fun i H2 v H3 => H3 = H2 ∧ ∀ zs, SqT K H2 a zs → zs[i]? = some v) [(.ref a, dx)] q o1.ok ⟨fun i H2 hi ⟨zs, z1, z2⟩ => ⟨zs, zs[i]'(by rw [z2]; simpa using hi), z1, by simp [z2, show i < ds.length by simpa using hi]⟩, fun H2 ⟨zs, z1, z2⟩ => ⟨zs, z1, by rw [z2, List.length_map]; exact Nat.le_refl _⟩, fun i H2 v H3 hi _ y => y⟩ (fun B2 S2 σ2 H2 vs hv hs2 ⟨F2, α2, o2⟩ => ?_) (fun B2 i S2 σ2 H2 v H3 vs hi hv hs2 ⟨F2, α2, o2⟩ y => ?_)⟩
          · obtain ⟨zs, z1, z2⟩ := same B2 S2 σ2 H2 vs (hv _ (by simp)) hs2 F2 α2 o2
            exact ⟨zs, z1, Paired.length z2⟩
          · obtain ⟨zs, z1, z2⟩ := same B2 S2 σ2 H2 vs (hv _ (by simp)) hs2 F2 α2 o2
            obtain ⟨rfl, y⟩ := y
            obtain ⟨d, d1, d2⟩ := pget i z2 (y zs z1)
            exact ⟨.one d, by rw [List.getElem?_map, d1]; rfl, F2, α2, o2, d2⟩
      have plain : ∀ (b : Bool) (_ : S1.seq dx = some (b, ds)) (_ : ∀ S2 : DSt, S2.seq dx = S1.seq dx) (_ : St = fun _ => True), (∃ a, x = .ref a ∧ (∃ xs, SqL K H1 a xs) ∧ Q (Itl K a) H1) ∨ (∃ a, x = .ref a ∧ (∃ xs, SqT K H1 a xs) ∧ Q (Itt K a) H1) := fun b e1 e2 e3 => by
        refine go b (fun B2 S2 σ2 H2 vs hv hs2 o2 => by rw [e2]; exact e1) (by rw [e3]; trivial)
      have join : (∃ a, x = .ref a ∧ (∃ xs, SqL K H1 a xs) ∧ Q (Itl K a) H1) ∨ (∃ a, x = .ref a ∧ (∃ xs, SqT K H1 a xs) ∧ Q (Itt K a) H1) → (∃ a, x = .ref a ∧ (∃ xs, SqL K H1 a xs) ∧ Q (Itl K a) H1) ∨ (∃ a, x = .ref a ∧ (∃ xs, SqT K H1 a xs) ∧ Q (Itt K a) H1) ∨ (∃ z, x = .str z ∧ Q (Its z) H1) := fun z => z.elim .inl fun z => .inr (.inl z)
      cases dx with
      | cell j =>
        have e' : (match S1.cell j with | some (.lst ds) => some (ds, fun S' : DSt => S'.cell j = some (.lst ds)) | _ => none) = some (ds, St) := e
        cases e1 : S1.cell j with
        | none => rw [e1] at e'; cases e'
        | some u =>
          rw [e1] at e'
          cases u with
          | lst es =>
            cases e'
            exact join (go true (fun B2 S2 σ2 H2 vs hv hs2 o2 => by
              show (match S2.cell j with | some (.lst ds) => some (true, ds) | _ => none) = _
              rw [show S2.cell j = some (DO.lst ds) from hs2]) e1)
          | dic _ => cases e'
          | ins _ _ => cases e'
          | ho _ => cases e'
          | lck _ _ => cases e'
      | raw u => cases e
      | obj φ => cases e
      | scr ns =>
        cases e
        exact join (plain true rfl (fun _ => rfl) rfl)
      | imm p =>
        cases p with
        | list ps => cases e; exact join (plain true rfl (fun _ => rfl) rfl)
        | tuple ps => cases e; exact join (plain false rfl (fun _ => rfl) rfl)
        | str z =>
          cases e
          obtain ⟨F, α, o1⟩ := o
          refine .inr (.inr ⟨z, vok_str o1.top, k _ _ S1 H1 (Its z) (fun _ => True) (fun i H2 v H3 => H3 = H2 ∧ ∃ c, z.cps[i]? = some c ∧ v = .str ⟨#[c]⟩) [] q (o1.sub mem1).ok ?_ (fun _ _ _ _ _ _ _ _ => trivial) fun B2 i S2 σ2 H2 v H3 vs hi hv hs2 ⟨F2, α2, o2⟩ y => ?_⟩)
          · rw [List.length_map, List.length_map, Array.length_toList]; exact walk_str
          · obtain ⟨rfl, c, hc, rfl⟩ := y
            refine ⟨.one (dS ⟨#[c]⟩), ?_, F2, α2, o2, Rp.str _⟩
            rw [List.getElem?_map, List.getElem?_map, Array.getElem?_toList, hc]; rfl
        | none => cases e
        | bool _ => cases e
        | int _ => cases e
        | dict _ => cases e
/-! ### range -/
def rangeD (lo : Int) (n : Nat) : List DY := (List.range n).map fun (i : Nat) => DY.one (dI (lo + (i : Int)))
theorem range_get {lo : Int} {n i : Nat} {y : DY} (h : (rangeD lo n)[i]? = some y) : i < n ∧ y = .one (dI (lo + (i : Int))) := by
  unfold rangeD at h
  rw [List.getElem?_map] at h
  by_cases c : i < n
  · rw [List.getElem?_range c] at h
    cases h
    exact ⟨c, rfl⟩
  · rw [List.getElem?_eq_none (by simp; omega)] at h
    cases h
theorem get_range {lo : Int} {n i : Nat} (h : i < n) : (rangeD lo n)[i]? = some (.one (dI (lo + (i : Int)))) := by
  unfold rangeD
  rw [List.getElem?_map, List.getElem?_range h]
  rfl
theorem range_len (lo : Int) (n : Nat) : (rangeD lo n).length = n := by unfold rangeD; rw [List.length_map, List.length_range]
def diRange1 (da : DTA) : DTI := fun S R => da S fun ds S1 => match ds with
  | [d] => match d.int? with
    | some j => (-(2 ^ 62) ≤ j ∧ j < 2 ^ 62) ∧ R (rangeD 0 j.toNat) (fun _ => True) S1
    | none => False
  | _ => False
def diRange2 (da : DTA) : DTI := fun S R => da S fun ds S1 => match ds with
  | [c, d] => match c.int?, d.int? with
    | some i, some j => (-(2 ^ 62) ≤ i ∧ i < 2 ^ 62 ∧ -(2 ^ 62) ≤ j ∧ j < 2 ^ 62) ∧ R (rangeD i (j - i).toNat) (fun _ => True) S1
    | _, _ => False
  | _ => False
theorem snd_rng {lo : Int} {n : Nat} {R : List DY → (DSt → Prop) → DSt → Prop} {Q : It → Hp → Prop} {S1 : DSt} {H1 : Hp} (q : R (rangeD lo n) (fun _ => True) S1) (o : StOk P w K B S1 σ ts H1)
    (k : ∀ (ys : List DY) (St : DSt → Prop) (S1 : DSt) (H1 : Hp) (J : It) (G : Hp → Prop) (Y : Nat → Hp → V → Hp → Prop) (us : List (V × DV)), R ys St S1 → StOk P w K B S1 σ (us ++ ts) H1 → Walk J ys.length G Y →
    (∀ B2 S2 σ2 H2 vs, (∀ p ∈ us, p ∈ vs) → St S2 → StOk P w K B2 S2 σ2 vs H2 → G H2) →
    (∀ B2 i S2 σ2 H2 x H3 vs, i < ys.length → (∀ p ∈ us, p ∈ vs) → St S2 → StOk P w K B2 S2 σ2 vs H2 → Y i H2 x H3 → ∃ y, ys[i]? = some y ∧ StY P w K B2 S2 σ2 vs H3 x y) → Q J H1) : Q (Itr lo n) H1 := by
  refine k (rangeD lo n) (fun _ => True) S1 H1 (Itr lo n) _ _ [] q o (by rw [range_len]; exact walk_range) (fun _ _ _ _ _ _ _ _ => trivial) fun B2 i S2 σ2 H2 v H3 vs hi hv hs2 ⟨F2, α2, o2⟩ y => ?_
  obtain ⟨rfl, rfl⟩ := y
  rw [range_len] at hi
  exact ⟨_, get_range hi, F2, α2, o2, Rp.int _⟩
theorem snd_range1 {ta : TA} {da : DTA} (ha : SndA P w K ta da) : SndI P w K (iRng1 ta) (diRange1 da) := fun B S σ ts H R Q h hd k =>
  ha B S σ ts H _ _ h hd fun xs ds S1 H1 hl q o => by
    match ds, q with
    | [d], q =>
      match xs, hl with
      | [x], _ =>
        have q' : match d.int? with | some j => (-(2 ^ 62) ≤ j ∧ j < 2 ^ 62) ∧ R (rangeD 0 j.toNat) (fun _ => True) S1 | none => False := q
        split at q'
        · rename_i j e
          rw [int?_eq e] at o
          obtain ⟨F, α, o1⟩ := o
          have hx : x = V.int j := vok_int (o1.tm (x, dI j) (by simp))
          exact ⟨j, by rw [hx], q'.1.1, q'.1.2, snd_rng q'.2 (o1.sub memA).ok k⟩
        · exact q'.elim
theorem snd_range2 {ta : TA} {da : DTA} (ha : SndA P w K ta da) : SndI P w K (iRng2 ta) (diRange2 da) := fun B S σ ts H R Q h hd k =>
  ha B S σ ts H _ _ h hd fun xs ds S1 H1 hl q o => by
    match ds, q with
    | [c, d], q =>
      match xs, hl with
      | [x, y], _ =>
        have q' : match c.int?, d.int? with | some i, some j => (-(2 ^ 62) ≤ i ∧ i < 2 ^ 62 ∧ -(2 ^ 62) ≤ j ∧ j < 2 ^ 62) ∧ R (rangeD i (j - i).toNat) (fun _ => True) S1 | _, _ => False := q
        split at q'
        · rename_i i j e1 e2
          rw [int?_eq e1, int?_eq e2] at o
          obtain ⟨F, α, o1⟩ := o
          have hx : x = V.int i := vok_int (o1.tm (x, dI i) (by simp))
          have hy : y = V.int j := vok_int (o1.tm (y, dI j) (by simp))
          exact ⟨i, j, by rw [hx, hy], q'.1, snd_rng q'.2 (o1.sub memA).ok k⟩
        · exact q'.elim
/-! ### enumerate -/
def enumD (ds : List DV) : List DY := (List.range ds.length).zipWith (fun i d => DY.two (dI ((i : Nat) : Int)) d) ds
theorem enumD_len (ds : List DV) : (enumD ds).length = ds.length := by unfold enumD; rw [List.length_zipWith, List.length_range, Nat.min_self]
theorem enumD_get {ds : List DV} {i : Nat} {d : DV} (h : ds[i]? = some d) : (enumD ds)[i]? = some (.two (dI ((i : Nat) : Int)) d) := by
  unfold enumD
  rw [List.getElem?_zipWith, h, List.getElem?_range (List.getElem?_eq_some_iff.mp h).1]
theorem get_enumD {ds : List DV} {i : Nat} {y : DY} (h : (enumD ds)[i]? = some y) : ∃ d, ds[i]? = some d ∧ y = .two (dI ((i : Nat) : Int)) d := by
  have hi := (List.getElem?_eq_some_iff.mp h).1
  rw [enumD_len] at hi
  have e : ds[i]? = some ds[i] := List.getElem?_eq_getElem hi
  rw [enumD_get e] at h
  cases h
  exact ⟨_, e, rfl⟩
/-- over what never changes -/
def diEnum (da : DTA) : DTI := fun S R => da S fun ds S1 => match ds with
  | [.imm p] => match S1.seq (.imm p) with
    | some (_, es) => R (enumD es) (fun _ => True) S1
    | none => False
  | _ => False
theorem snd_enum {ta : TA} {da : DTA} (ha : SndA P w K ta da) : SndI P w K (iEnumA K ta) (diEnum da) := fun B S σ ts H R Q h hd k =>
  ha B S σ ts H _ _ h hd fun xs ds S1 H1 hl q o => by
    match ds, q with
    | [.imm p], q =>
      match xs, hl with
      | [x], _ =>
        cases e : S1.seq (.imm p) with
        | none =>
          have q' : match S1.seq (.imm p) with | some (_, es) => R (enumD es) (fun _ => True) S1 | none => False := q
          rw [e] at q'; exact q'.elim
        | some z =>
          obtain ⟨b, es⟩ := z
          have q' : match S1.seq (.imm p) with | some (_, es) => R (enumD es) (fun _ => True) S1 | none => False := q
          rw [e] at q'
          have es2 : ∀ S2 : DSt, S2.seq (.imm p) = some (b, es) := fun S2 => by
            rw [← e]; cases p <;> rfl
          obtain ⟨F, α, o1⟩ := o
          obtain ⟨a, zs, rfl, hq, hp⟩ := o1.seq (o1.tm (x, .imm p) (by simp)) e
          have mk : ∀ (J : It) (Rd : Hp → List V → Prop), (∀ H2 us, Rd H2 us ↔ (if b = true then SqL K H2 a us else SqT K H2 a us)) → Walk J zs.length (fun H2 => Rd H2 zs) (YPair (fun i => some (.int (i : Nat))) (fun i => zs[i]?)) → True := fun _ _ _ _ => trivial
          have body : ∀ (J : It), (∀ us : List V, us.length = es.length → True) → True := fun _ _ => trivial
          cases b with
          | true =>
            refine .inl ⟨a, zs, rfl, hq, k (enumD es) (fun _ => True) S1 H1 (Ite K a) (fun H2 => ∃ us, SqL K H2 a us ∧ us.length = es.length) (fun i H2 v H3 => ∃ T x, v = .ref T ∧ H2 T = none ∧ H3 = upd H2 T (.tup [.int (i : Nat), x]) ∧ ∀ us, SqL K H2 a us → us[i]? = some x) [(.ref a, .imm p)] q' (o1.sub fun z hz => by simpa using hz).ok ⟨fun i H2 hi ⟨us, u1, u2⟩ => ⟨us, us[i]'(by rw [u2]; rwa [enumD_len] at hi), u1, by simp [u2, show i < es.length by rwa [enumD_len] at hi]⟩, fun H2 ⟨us, u1, u2⟩ => ⟨us, u1, by rw [u2, enumD_len]; exact Nat.le_refl _⟩, fun i H2 v H3 hi _ y => y⟩ (fun B2 S2 σ2 H2 vs hv _ ⟨F2, α2, o2⟩ => ?_) (fun B2 i S2 σ2 H2 v H3 vs hi hv _ ⟨F2, α2, o2⟩ y => ?_)⟩
            · obtain ⟨a', us, e1, e2, e3⟩ := o2.seq (o2.tm (.ref a, .imm p) (hv _ (by simp))) (es2 S2)
              cases e1
              exact ⟨us, e2, Paired.length e3⟩
            · obtain ⟨a', us, e1, e2, e3⟩ := o2.seq (o2.tm (.ref a, .imm p) (hv _ (by simp))) (es2 S2)
              cases e1
              obtain ⟨T, x, rfl, hT, rfl, hx⟩ := y
              obtain ⟨d, d1, d2⟩ := pget i e3 (hx us e2)
              have hFT := o2.freeF hT
              have hαT : T ∉ α2 := fun z => o2.an T z hT
              exact ⟨_, enumD_get d1, F2, α2, o2.free hαT hFT (o2.freshB hT), T, .int (i : Nat), x, rfl, upd_same, Rp.int _, d2⟩
          | false =>
            refine .inr ⟨a, zs, rfl, hq, k (enumD es) (fun _ => True) S1 H1 (IteT K a) (fun H2 => ∃ us, SqT K H2 a us ∧ us.length = es.length) (fun i H2 v H3 => ∃ T x, v = .ref T ∧ H2 T = none ∧ H3 = upd H2 T (.tup [.int (i : Nat), x]) ∧ ∀ us, SqT K H2 a us → us[i]? = some x) [(.ref a, .imm p)] q' (o1.sub fun z hz => by simpa using hz).ok ⟨fun i H2 hi ⟨us, u1, u2⟩ => ⟨us, us[i]'(by rw [u2]; rwa [enumD_len] at hi), u1, by simp [u2, show i < es.length by rwa [enumD_len] at hi]⟩, fun H2 ⟨us, u1, u2⟩ => ⟨us, u1, by rw [u2, enumD_len]⟩, fun i H2 v H3 hi _ y => y⟩ (fun B2 S2 σ2 H2 vs hv _ ⟨F2, α2, o2⟩ => ?_) (fun B2 i S2 σ2 H2 v H3 vs hi hv _ ⟨F2, α2, o2⟩ y => ?_)⟩
            · obtain ⟨a', us, e1, e2, e3⟩ := o2.seq (o2.tm (.ref a, .imm p) (hv _ (by simp))) (es2 S2)
              cases e1
              exact ⟨us, e2, Paired.length e3⟩
            · obtain ⟨a', us, e1, e2, e3⟩ := o2.seq (o2.tm (.ref a, .imm p) (hv _ (by simp))) (es2 S2)
              cases e1
              obtain ⟨T, x, rfl, hT, rfl, hx⟩ := y
              obtain ⟨d, d1, d2⟩ := pget i e3 (hx us e2)
              have hFT := o2.freeF hT
              have hαT : T ∉ α2 := fun z => o2.an T z hT
              exact ⟨_, enumD_get d1, F2, α2, o2.free hαT hFT (o2.freshB hT), T, .int (i : Nat), x, rfl, upd_same, Rp.int _, d2⟩
end
/-! ## the rules -/
section
variable {X : Cx} {tg e c : Expr} {es : List Expr} {de : DTE} {da : DTA} {dt : DTT} {di : DTI} {dg : DTG} {js : List Nat} {db : DTS} {p pos : Pos} {body : List Stmt}
theorem di_any (he : DE X e de) : DI X tg e (diAny de) := by
  obtain ⟨t, a1, a2⟩ := he.ex
  exact ⟨_, pi_any a1, snd_any a2⟩
theorem di_range1 {a : Expr} (hg : Gl X "range") (hm : X.mg "range" = none) (ha : DA X [a] da) (hs : starEach [a] X.env = [(false, eval a X.env)] := by rfl) : DI X tg (.Call (.Name "range" p) [a] [] pos) (diRange1 da) := by
  obtain ⟨t, a1, a2⟩ := ha.ex
  exact ⟨_, pi_range1 hg hm a1 hs, snd_range1 a2⟩
theorem di_range2 {a b : Expr} (hg : Gl X "range") (hm : X.mg "range" = none) (ha : DA X [a, b] da) (hs : starEach [a, b] X.env = [(false, eval a X.env), (false, eval b X.env)] := by rfl) (hs2 : starEach [b] X.env = [(false, eval b X.env)] := by rfl) :
    DI X tg (.Call (.Name "range" p) [a, b] [] pos) (diRange2 da) := by
  obtain ⟨t, a1, a2⟩ := ha.ex
  exact ⟨_, pi_range2 hg hm a1 hs hs2, snd_range2 a2⟩
theorem di_enum {elts : List Expr} {kk : Nat} {tpos : Pos} (hg : Gl X "enumerate") (hm : X.mg "enumerate" = none) (ha : DA X [e] da) (hs : starEach [e] X.env = [(false, eval e X.env)] := by rfl) :
    DI X (.Tuple elts kk tpos) (.Call (.Name "enumerate" p) [e] [] pos) (diEnum da) := by
  obtain ⟨t, a1, a2⟩ := ha.ex
  exact ⟨_, pi_enumA hg hm a1 hs, snd_enum a2⟩
theorem ds_for (hp : PassesOwn (model X.prog X.w) X.A X.env X.xe) (hc : X.calm = true) (hi : DI X tg e di) (hg : DG X tg js dg) (hb : DSs X body db) (hs : ∀ x, foldedSetIterable e X.env x = pure x := by intro _; rfl) : DS X (.For tg e body [] pos) (dFor di dg db) := by
  obtain ⟨wi, a1, a2⟩ := hi.ex
  obtain ⟨g, b1, b2⟩ := hg.ex
  obtain ⟨t, c1, c2⟩ := hb.ex
  exact ⟨_, ps_for hp hc a1 b1 c1 hs, snd_for a2 b2 c2⟩
theorem ds_while (hp : PassesOwn (model X.prog X.w) X.A X.env X.xe) (hc : DT X c dt) (hb : DSs X body db) : DS X (.While c body [] pos) (dWhile dt db) := by
  obtain ⟨tc, a1, a2⟩ := hc.ex
  obtain ⟨t, c1, c2⟩ := hb.ex
  exact ⟨_, ps_while hp a1 c1, snd_while a2 c2⟩
end
end DL

set_option Elab.async false
set_option linter.all false
set_option maxRecDepth 100000
set_option autoImplicit false
set_option maxHeartbeats 2000000
namespace DL
open PySem PySem.Spec L2
open PyProof.Rows (envOfC)

/-! ## defs: as HandS.FnOk, and no repr is under way -/
structure FnG (P : Program) (w : World) (K : PySem.W.Frag) (mg : Str → Option Value) (base : Heap) (CX : CXT) (k : Nat) (f : Addr) (fd : FuncData) (ps : List Str) (sp : Sp) : Prop where
  len : ∀ vs H Q E, sp vs H Q E → vs.length = ps.length
  run : ∀ (A : Around) (outer : List Env) (s : Shared) (H : Hp) (args : Args) (us : List Value) (vs : List V) (Q : VK) (E : XK), Room k A → A.guards = some [] → Env0 P w K mg base A outer s H → BindsTo s fd args (ps.zip us) → Vals vs us → sp vs H Q E →
    codeAny (model P w) A (.call (.ref f) args) (CR CX outer P w H s Q E) s
theorem FnG.mono {P : Program} {w : World} {K : PySem.W.Frag} {mg : Str → Option Value} {base : Heap} {CX : CXT} {j k : Nat} {f : Addr} {fd : FuncData} {ps : List Str} {sp : Sp} (F : FnG P w K mg base CX j f fd ps sp) (h : j ≤ k) : FnG P w K mg base CX k f fd ps sp :=
  ⟨F.len, fun A outer s H args us vs Q E hr => F.run A outer s H args us vs Q E (hr.mono h)⟩
section
variable {X : Cx} {CX : CXT} {k : Nat} {f C : Addr} {fd : FuncData} {ps ks : List Str} {sp : Sp} {dvs : List V} {ds : List Value} {E : XK} {x m : Str} {p pos apos : Pos} {e o : Expr} {es : List Expr} {ta : TE} {t tk : TA} {kws : List Keyword}
theorem out_fn {pins : List (Addr × Obj)} {σ : L2.St} {H : Hp} {s : Shared} {Q : VK} {args : Args} {us : List Value} {vs : List V} (F : FnG X.prog X.w X.K X.mg X.base CX k f fd ps sp) (hr : Room k X.A) (hgd : X.A.guards = some []) (hx : Passes CX X E)
    (I : Inv X pins σ H s) (hb : BindsTo s fd args (ps.zip us)) (r : Vals vs us) (h : sp vs H Q E) : codeAny (model X.prog X.w) X.A (.call (.ref f) args) (wants (EP X pins σ Q) X.xe) s :=
  codeAny_mono (F.run X.A X.stack s H args us vs Q E hr hgd I.env0 hb r h) fun r s' hq => by
    cases r with
    | error e => exact hx pins σ H s e s' I hq
    | ok fl =>
      cases fl with
      | ret u => exact I.after hq
      | next => exact hq.elim
      | brk => exact hq.elim
      | cont => exact hq.elim
theorem run_fnG {pins : List (Addr × Obj)} {σ : L2.St} {H : Hp} {s : Shared} {Q : VK} {us : List Value} {vs : List V} (F : FnG X.prog X.w X.K X.mg X.base CX k f fd ps sp) (hr : Room k X.A) (hgd : X.A.guards = some []) (hb : Binds X.K fd ps ds) (hd : Vals dvs ds) (hx : Passes CX X E)
    (I : Inv X pins σ H s) (r : Vals vs us) (h : sp (vs ++ dvs) H Q E) : wpAny (model X.prog X.w) X.A (call (.ref f) us) (EP X pins σ Q) X.xe s := by
  have r2 := r.append hd
  have hl : (us ++ ds).length = ps.length := r2.length.symm.trans (F.len _ _ _ _ h)
  exact wpAny_call (out_fn F hr hgd hx I (hb s us I.kIn hl) r2 h)
theorem pe_callG (F : FnG X.prog X.w X.K X.mg X.base CX k f fd ps sp) (hr : Room k X.A) (hgd : X.A.guards = some []) (hg : Gl X x) (hm : X.mg x = some (.ref f)) (hk : PySem.W.keepIn X.K (.ref f) = true) (hb : Binds X.K fd ps ds) (hd : Vals dvs ds) (hx : Passes CX X E)
    (ha : PA X (e :: es) t) (hdb : (x == ("__debug__" : Str)) = false := by decide) (he : starEach (e :: es) X.env = (false, eval e X.env) :: starEach es X.env := by rfl) (hpl : (backTo pos (starEach es X.env)).any (·.1) = false := by rfl) :
    PE X (.Call (.Name x p) (e :: es) [] pos) (tCall sp dvs E t) := ⟨fun pins s σ H Q I h =>
  wpAny_Call_Name_kw (ld_glob I hg hm (PySem.W.callWith_K (h₀ := X.base) I.ok.mod.kin hk (thn (ha.run pos pins s σ H _ I h) fun us s1 ⟨vs, H1, I1, r, q⟩ => ⟨I1.kIn, run_fnG F hr hgd hb hd hx I1 r q⟩) he hpl) hdb)⟩
theorem pe_call0G (F : FnG X.prog X.w X.K X.mg X.base CX k f fd ps sp) (hr : Room k X.A) (hgd : X.A.guards = some []) (hg : Gl X x) (hm : X.mg x = some (.ref f)) (hk : PySem.W.keepIn X.K (.ref f) = true) (hb : Binds X.K fd ps ds) (hd : Vals dvs ds) (hx : Passes CX X E)
    (hdb : (x == ("__debug__" : Str)) = false := by decide) : PE X (.Call (.Name x p) [] [] pos) (tCall sp dvs E tNil) := ⟨fun pins s σ H Q I h =>
  wpAny_Call_Name_kw (ld_glob I hg hm (PySem.W.callWith_K0 I.kIn hk (run_fnG (us := []) F hr hgd hb hd hx I .nil h)) hdb)⟩
variable {g : List Value → List Value → List Value} {gV : List V → List V → List V}
theorem pe_callKG (F : FnG X.prog X.w X.K X.mg X.base CX k f fd ps sp) (hr : Room k X.A) (hgd : X.A.guards = some []) (hg : Gl X x) (hm : X.mg x = some (.ref f)) (hk : PySem.W.keepIn X.K (.ref f) = true) (hb : KBinds X.K fd ps ks g gV) (hx : Passes CX X E)
    (ha : PA X (e :: es) t) (hkw : PK X kws tk) (hall : (backToKw pos (keywordEach kws X.env)).all (·.1.isSome) = true := by rfl) (hks : (backToKw pos (keywordEach kws X.env)).filterMap (·.1) = ks := by rfl)
    (hdb : (x == ("__debug__" : Str)) = false := by decide) (he : starEach (e :: es) X.env = (false, eval e X.env) :: starEach es X.env := by rfl)
    (hpl : ((backTo pos (starEach (e :: es) X.env)).any (·.1) || (backToKw pos (keywordEach kws X.env)).any (·.1.isNone)) = false := by rfl) :
    PE X (.Call (.Name x p) (e :: es) kws pos) (tCallK sp gV E t tk) := ⟨fun pins s σ H Q I h => by
  refine wpAny_Call_Name_kw (ld_glob I hg hm ?_ hdb)
  refine PySem.W.callWith_KW (h₀ := X.base) I.ok.mod.kin hk hall (thn (ha.run pos pins s σ H _ I h) fun us s1 ⟨vs, H1, I1, r, q⟩ => ?_) hpl he
  refine thn (hkw.run pos pins s1 σ H1 _ I1 q) fun ws s2 ⟨zs, H2, I2, rz, q2⟩ => ⟨I2.kIn, ?_⟩
  rw [hks]
  have r2 := hb.rel r rz
  have hl : (g us ws).length = ps.length := r2.length.symm.trans (F.len _ _ _ _ q2)
  exact wpAny_call (out_fn F hr hgd hx I2 (hb.to s2 us ws I2.kIn hl) r2 q2)⟩
end
/-- a def of the text, by its body -/
theorem fn_ofG {CX : CXT} {P : Program} {w : World} {K : PySem.W.Frag} {mg : Str → Option Value} {base : Heap} {k : Nat} {f : Addr} {name qual : Str} {params : Arguments} {body : List Stmt} {scope : Scope} {dV kV doc pm cdv ct oc : Value} {an od : Option Addr}
    {osl : Array (Option Value)} {N ps : List Str} {sp : Sp} (lk : K.lookup f = some ⟨oc, od, .func (PySem.W.fnOf name qual params body scope dV kV doc pm an cdv ct), osl⟩) (hcd : PySem.W.codeIn K cdv qual = true) (S : FnScope N ps scope)
    (len : ∀ vs H Q E, sp vs H Q E → vs.length = ps.length)
    (hbody : ∀ (A : Around) (outer : List Env) (s : Shared) (H : Hp) (vs : List V) (Q : VK) (E : XK), Room k (A.deeper (envOfC qual scope s.heap.objs.size f cdv)) → A.guards = some [] → sp vs H Q E →
      ∃ t, PSs (cxOf CX P w K mg base N qual scope f cdv A outer s H E) body t ∧ t { nx := fun _ H' => Q .non H', rt := Q } (L2.start N vs) H) :
    FnG P w K mg base CX (k + 1) f (PySem.W.fnOf name qual params body scope dV kV doc pm an cdv ct) ps sp := by
  refine ⟨len, fun A outer s H args us vs Q E hr hgd e0 hb r hsp => ?_⟩
  have hl := len _ _ _ _ hsp
  have grow : ∀ b o, base.get? b = some o → s.heap.get? b = some o := fun b o e => (e0.bs b o e).1
  have KX : K.In s.heap := e0.mod.kin.keeps grow
  have lim : s.heap.NoLimit := e0.mod.nolimit.keeps grow
  refine codeAny_call_function hr.depth (KX _ _ lk) rfl S.co S.gen rfl (PySem.W.codeRec_of KX hcd) (hb _ _ _ _ ?_)
  refine wpAny_newFunctionEnv_cells S.kind (fun ⟨n, v⟩ hy => ?_) fun env he s1 x => ?_
  · exact (S.par n (List.of_mem_zip hy).1).imp id fun q => ⟨q, PySem.W.cellsFrom_some _ _ _ (.inl q)⟩
  subst he
  obtain ⟨t, ht, hq⟩ := hbody A outer s H vs Q E (hr.deeper _) hgd hsp
  have I : Inv (cxOf CX P w K mg base N qual scope f cdv A outer s H E) [] (L2.start N vs) H s1 := inv_start S hr.hd e0 hl r x
  refine ⟨lim.keeps x.toInCall.keep, codeAny_func (wpAny_mono (ht.run [] s1 (L2.start N vs) H _ I hq) (fun fl s' hs => ?_) fun e s' hs => hs)⟩
  cases fl with
  | ret u =>
    obtain ⟨v, σ', H', J, rv, q⟩ := hs
    exact ⟨v, H', J.os, J.bare, J.base, J.hok, rv, q⟩
  | next =>
    obtain ⟨σ', H', J, q⟩ := hs
    exact ⟨V.non, H', J.os, J.bare, J.base, J.hok, rfl, q⟩
  | brk =>
    obtain ⟨_, _, _, q⟩ := hs
    exact q.elim
  | cont =>
    obtain ⟨_, _, _, q⟩ := hs
    exact q.elim

/-! ## promises over data -/
abbrev DSp := List DV → List (Option DO) → (DV → List (Option DO) → Prop) → Prop
def spD (P : Program) (w : World) (K : PySem.W.Frag) (dsp : DSp) : Sp := fun vs H Q _ => ∃ (F : Hp) (α : List Addr) (ds : List DV) (μ : List (Option DO)) (R : DV → List (Option DO) → Prop),
  StAt P w K ⟨F, H, α⟩ ⟨ds.map some, μ⟩ (vs.map some) [] H F α ∧ vs.length = ds.length ∧ dsp ds μ R ∧ ∀ v d ρ σ μ' H', R d μ' → StOk P w K ⟨F, H, α⟩ ⟨ρ, μ'⟩ σ [(v, d)] H' → Q v H'
/-- a def of the text keeps its promise over data -/
structure DFn (P : Program) (w : World) (K : PySem.W.Frag) (mg : Str → Option Value) (base : Heap) (k : Nat) (f : Addr) (fd : FuncData) (ps : List Str) (dsp : DSp) : Prop where
  fn : FnG P w K mg base CX0 k f fd ps (spD P w K dsp)
theorem DFn.mono {P : Program} {w : World} {K : PySem.W.Frag} {mg : Str → Option Value} {base : Heap} {j k : Nat} {f : Addr} {fd : FuncData} {ps : List Str} {dsp : DSp} (F : DFn P w K mg base j f fd ps dsp) (h : j ≤ k) : DFn P w K mg base k f fd ps dsp := ⟨F.fn.mono h⟩
/-- a def's context, nothing raised -/
abbrev ctxD (P : Program) (w : World) (K : PySem.W.Frag) (mg : Str → Option Value) (base : Heap) (N : List Str) (qual : Str) (sc : Scope) (f : Addr) (cdv : Value) (A : Around) (outer : List Env) (s : Shared) (H : Hp) (E : XK) : Cx :=
  (cxOf CX0 P w K mg base N qual sc f cdv A outer s H E).nox
/-- THE RULE: the body's data reading at the arguments -/
theorem dfn_of {P : Program} {w : World} {K : PySem.W.Frag} {mg : Str → Option Value} {base : Heap} {x qual : Str} {st : Stmt} {f : Addr} {fd : FuncData} {N ps : List Str} {k : Nat} {dsp : DSp} (F : Fun K x qual st f fd) (S : FnScope N ps (defScope st)) (len : ∀ ds μ R, dsp ds μ R → ds.length = ps.length)
    (hbody : ∀ (cdv : Value) (A : Around) (outer : List Env) (s : Shared) (H : Hp) (E : XK), Room k (A.deeper (envOfC qual (defScope st) s.heap.objs.size f cdv)) → A.guards = some [] →
      ∃ dt, DSs (ctxD P w K mg base N qual (defScope st) f cdv A outer s H E) (defBody st) dt ∧ ∀ ds μ R, dsp ds μ R → dt { nx := fun S => R dN S.μ, rt := fun d S => R d S.μ } ⟨ds.map some ++ List.replicate (N.length - ds.length) none, μ⟩) : DFn P w K mg base (k + 1) f fd ps dsp := by
  obtain ⟨oc, od, kV, doc, pm, an, cdv, ct, osl, rfl, lk, hcd⟩ := F.ex
  have hlen : ∀ vs H Q E, spD P w K dsp vs H Q E → vs.length = ps.length := fun vs H Q E ⟨_, _, ds, μ, R, _, hl, h, _⟩ => hl.trans (len ds μ R h)
  refine ⟨fn_ofG lk hcd S hlen fun A outer s H vs Q E hr hgd hsp => ?_⟩
  obtain ⟨F0, α, ds, μ, R, h0, hl, hd, hq⟩ := hsp
  obtain ⟨dt, hdt, hgo⟩ := hbody cdv A outer s H E hr hgd
  obtain ⟨t, t1, t2⟩ := hdt.ex
  refine ⟨t, t1.nox, t2 ⟨F0, H, α⟩ _ (L2.start N vs) [] H _ _ ⟨F0, α, ?_⟩ (hgo ds μ R hd) ⟨fun S1 σ1 H1 q o => ?_, fun v d S1 σ1 H1 q o => ?_, fun _ _ _ q => q.elim, fun _ _ _ q => q.elim⟩⟩
  · unfold L2.start
    refine h0.slots (by rw [List.length_append, List.length_append, List.length_map, List.length_map, List.length_replicate, List.length_replicate, hl]) fun i d q => ?_
    by_cases c : i < ds.length
    · rw [List.getElem?_append_left (by rw [List.length_map]; exact c)] at q
      obtain ⟨v, g1, g2⟩ := h0.sl i d q
      exact ⟨v, by rw [List.getElem?_append_left (by rw [List.length_map, hl]; exact c)]; exact g1, g2⟩
    · rw [List.getElem?_append_right (by rw [List.length_map]; omega), List.getElem?_replicate] at q
      split at q <;> cases q
  · obtain ⟨F1, α1, o⟩ := o
    exact hq .non dN S1.ρ σ1 S1.μ H1 q (o.add vnon).ok
  · exact hq v d S1.ρ σ1 S1.μ H1 q o

/-! ## calls over data -/
def renD (ks : List Nat) : DV → Option DV
  | .cell k => if k ∈ ks then some (.cell (ks.idxOf k)) else none
  | d => some d
def renDs (ks : List Nat) : List DV → Option (List DV)
  | [] => some []
  | d :: r => match renD ks d, renDs ks r with
    | some d', some r' => some (d' :: r')
    | _, _ => none
/-- no cell within -/
def DV.bare : DV → Bool
  | .cell _ => false
  | _ => true
def DO.bare : DO → Bool
  | .lst ds => ds.all DV.bare
  | .dic kvs => kvs.all fun p => p.2.bare
  | .ins _ fs => fs.all fun p => p.2.bare
  | .ho _ => true
  | .lck _ kvs => kvs.all fun p => p.2.bare
def cellsOf (μ : List (Option DO)) : List Nat → List (Option DO)
  | [] => []
  | k :: ks => (match μ[k]? with | some (some o) => if o.bare = true then some o else none | _ => none) :: cellsOf μ ks
def backs (μ : List (Option DO)) : List Nat → List (Option DO) → List (Option DO)
  | k :: ks, μ' => backs (μ.set k (match μ'[0]? with | some (some o) => if o.bare = true then some o else none | _ => none)) ks (μ'.drop 1)
  | [], _ => μ
/-- ks: the cells that are handed over -/
def kCall (dsp : DSp) (R : DV → DSt → Prop) (ds : List DV) (S1 : DSt) (ks : List Nat) : Prop := match renDs ks ds with
  | none => False
  | some ds' => ks.Nodup ∧ (∀ k ∈ ks, k < S1.μ.length) ∧ dsp ds' (cellsOf S1.μ ks) fun d μ' => match d with
    | .cell j => if h : j < ks.length then R (.cell ks[j]) ⟨S1.ρ, backs S1.μ ks μ'⟩ else match μ'[j]? with
      | some (some o) => if o.bare = true then R (.cell S1.μ.length) ⟨S1.ρ, backs S1.μ ks μ' ++ [some o]⟩ else False
      | _ => False
    | d => R d ⟨S1.ρ, backs S1.μ ks μ'⟩
def dCall (dsp : DSp) (dvs : List DV) (da : DTA) : DTE := fun S R => da S fun ds S1 => ∃ ks, kCall dsp R (ds ++ dvs) S1 ks

def pickB (o : Option (Option DO)) : Option DO := match o with
  | some (some o) => if o.bare = true then some o else none
  | _ => none
theorem pickB_eq {o : Option (Option DO)} {u : DO} (h : pickB o = some u) : o = some (some u) ∧ u.bare = true := by
  match o, h with
  | some (some v), h =>
    have h' : (if v.bare = true then some v else none) = some u := h
    split at h'
    · cases h'; exact ⟨rfl, by assumption⟩
    · cases h'
theorem cellsOf_get (μ : List (Option DO)) : ∀ (ks : List Nat) (j : Nat), (cellsOf μ ks)[j]? = (ks[j]?).map fun k => pickB μ[k]?
  | [], j => by simp [cellsOf]
  | k :: ks, 0 => rfl
  | k :: ks, j + 1 => by
    show (cellsOf μ ks)[j]? = _
    rw [cellsOf_get μ ks j]
    rfl
theorem cellsOf_len (μ : List (Option DO)) : ∀ ks : List Nat, (cellsOf μ ks).length = ks.length
  | [] => rfl
  | k :: ks => congrArg Nat.succ (cellsOf_len μ ks)
theorem backs_len (ks : List Nat) : ∀ (μ μ' : List (Option DO)), (backs μ ks μ').length = μ.length := by
  induction ks with
  | nil => intro μ μ'; rfl
  | cons k ks ih => intro μ μ'; show (backs _ ks _).length = _; rw [ih, List.length_set]
theorem idx_ne {k c : Nat} (ks : List Nat) (h : ¬ k = c) : (c :: ks).idxOf k = ks.idxOf k + 1 := by
  rw [List.idxOf_cons, show (c == k) = false from beq_eq_false_iff_ne.mpr fun e => h e.symm]; rfl
theorem get_idx {k : Nat} : ∀ {ks : List Nat}, k ∈ ks → ks[ks.idxOf k]? = some k
  | c :: ks, h => by
    by_cases e : k = c
    · subst e; rw [List.idxOf_cons_self]; rfl
    · rw [idx_ne ks e]
      exact get_idx ((List.mem_cons.mp h).resolve_left e)
theorem backs_get (ks : List Nat) : ∀ (μ μ' : List (Option DO)) (k : Nat), ks.Nodup → (∀ k ∈ ks, k < μ.length) →
    (backs μ ks μ')[k]? = if k ∈ ks then some (pickB μ'[ks.idxOf k]?) else μ[k]? := by
  induction ks with
  | nil => intro μ μ' k _ _; simp [backs]
  | cons c ks ih =>
    intro μ μ' k nd hl
    obtain ⟨n1, n2⟩ := List.nodup_cons.mp nd
    show (backs (μ.set c (pickB μ'[0]?)) ks (μ'.drop 1))[k]? = _
    rw [ih _ _ _ n2 (fun z hz => by rw [List.length_set]; exact hl z (List.mem_cons_of_mem _ hz))]
    by_cases hk : k = c
    · subst hk
      rw [if_neg n1, if_pos List.mem_cons_self, List.getElem?_set_self (hl k List.mem_cons_self), List.idxOf_cons_self]
    · by_cases hm : k ∈ ks
      · rw [if_pos hm, if_pos (List.mem_cons_of_mem _ hm), List.getElem?_drop, idx_ne ks hk, Nat.add_comm]
      · rw [if_neg hm, if_neg (fun z => (List.mem_cons.mp z).elim hk hm), List.getElem?_set_ne (fun e => hk e.symm)]
section
variable {P : Program} {w : World} {K : PySem.W.Frag} {B : Bs} {S S' : DSt} {σ : L2.St} {ts : List (V × DV)} {H F F' : Hp} {α β : List Addr} {v : V} {d : DV}
theorem VOk.bare (h : VOk P w K F α v d) (hb : d.bare = true) : VOk P w K F β v d := by
  cases d with
  | cell k => cases hb
  | imm d => exact h
  | raw u => exact h
  | obj φ => exact h
  | scr ns => exact h
theorem paired_all {V1 D1 : Type} {r r' : V1 → D1 → Prop} {q : D1 → Bool} (h : ∀ a b, q b = true → r a b → r' a b) : ∀ {xs : List V1} {ds : List D1}, Paired r xs ds → ds.all q = true → Paired r' xs ds
  | _, _, .nil, _ => .nil
  | _, _, .cons z t, e => by
    rw [List.all_cons, Bool.and_eq_true] at e
    exact .cons (h _ _ e.1 z) (paired_all h t e.2)
theorem COk.bare {a : Addr} {o : DO} (h : COk P w K F α H a o) (hb : o.bare = true) : COk P w K F β H a o := by
  cases o with
  | lst ds =>
    obtain ⟨xs, h1, h2⟩ := h
    exact ⟨xs, h1, paired_all (fun _ _ e z => z.bare e) h2 hb⟩
  | dic kvs =>
    obtain ⟨xs, h1, h2⟩ := h
    exact ⟨xs, h1, paired_all (q := fun (p : Leaf × DV) => p.2.bare) (fun _ _ e z => ⟨z.1, z.2.bare e⟩) h2 hb⟩
  | ins C fs =>
    obtain ⟨dx, xs, h1, h2⟩ := h
    exact ⟨dx, xs, h1, paired_all (q := fun (p : Str × DV) => p.2.bare) (fun _ _ e z => ⟨z.1, z.2.bare e⟩) h2 hb⟩
  | ho φ => exact h
  | lck ob kvs =>
    obtain ⟨xs, h1, h2⟩ := h
    exact ⟨xs, h1, paired_all (q := fun (p : Leaf × DV) => p.2.bare) (fun _ _ e z => ⟨z.1, z.2.bare e⟩) h2 hb⟩
/-- an object that stands becomes a cell -/
theorem StAt.adopt {a : Addr} {o : DO} (h : StAt P w K B S σ ts H F α) (ha : a ∉ α) (hF : F a = none) (hH : H a ≠ none) (hB : B.H a = none) (ho : COk P w K F (α ++ [a]) H a o) : StAt P w K B (S.new o) σ ts H F (α ++ [a]) := by
  have hbl : B.ps.length ≤ α.length := by
    have := congrArg List.length h.bp
    rw [List.length_take] at this
    omega
  refine ⟨h.fh, h.bh, h.bf, fun b v q1 q2 q3 => ?_, ?_, fun b q => ?_, ?_, ?_, fun b q => ?_, h.len, fun i d q => ?_, fun q hq => (h.tm q hq).up (Ex.refl _), fun k v q => ?_⟩
  · obtain ⟨h1, h2, h3⟩ := h.bc b v q1 q2 q3
    refine ⟨h1, h2, fun z => ?_⟩
    rcases List.mem_append.mp z with z | z
    · exact h3 z
    · rw [List.mem_singleton.mp z, hB] at q1; cases q1
  · rw [List.take_append_of_le_length hbl]; exact h.bp
  · rcases List.mem_append.mp q with q | q
    · exact h.bn b q
    · rw [List.mem_singleton.mp q]; exact .inr hB
  · rw [List.nodup_append]
    exact ⟨h.nd, by simp, fun b q c r e => ha (by rw [← List.mem_singleton.mp r, ← e]; exact q)⟩
  · show (α ++ [a]).length = (S.μ ++ [some o]).length
    rw [List.length_append, List.length_append, h.al, List.length_singleton, List.length_singleton]
  · rcases List.mem_append.mp q with q | q
    · exact h.an b q
    · rw [List.mem_singleton.mp q]; exact hH
  · obtain ⟨v, h1, h2⟩ := h.sl i d q
    exact ⟨v, h1, h2.up (Ex.refl _)⟩
  · have q' : (S.μ ++ [some o])[k]? = some (some v) := q
    by_cases hk : k < S.μ.length
    · rw [List.getElem?_append_left hk] at q'
      obtain ⟨b, h1, h2, h3⟩ := h.ce k v q'
      exact ⟨b, by rw [List.getElem?_append_left (by rw [h.al]; exact hk)]; exact h1, h2, h3.up (Ex.refl _) rfl⟩
    · have hk2 : k = S.μ.length := by
        have := (List.getElem?_eq_some_iff.mp q').1
        rw [List.length_append, List.length_singleton] at this
        omega
      subst hk2
      rw [List.getElem?_append_right (Nat.le_refl _), Nat.sub_self] at q'
      cases q'
      exact ⟨a, by rw [← h.al, List.getElem?_append_right (Nat.le_refl _), Nat.sub_self]; rfl, hF, ho⟩
theorem snd_lcC {wi : TI} {di : DTI} {g : TG} {dg : DTG} {js : List Nat} {tt : TT} {dt : DTT} {te : TE} {de : DTE} {vs : List Nat} (hi : SndI P w K wi di) (hg : SndG P w K js g dg) (ht : SndT P w K tt dt) (he : SndE P w K te de) (hj : ∀ j ∈ js, j ∈ vs) :
    SndE P w K (tLc wi g tt te vs) (dLcC di dg dt de vs) := fun B S σ ts H R Q h hd k =>
  snd_lcP hi hg ht he hj B S σ ts H _ Q h hd fun D acc ps S' H' F α r o h1 h2 h3 h4 rr => k _ _ _ H' r
    ((o.adopt (o := .lst (ps.map DV.imm)) h3 h2 (by rw [h1]; exact fun z => by cases z) h4 ⟨acc, h1, paired_imm rr⟩).add (d := .cell S'.μ.length) ⟨D, by rw [← o.al, List.getElem?_append_right (Nat.le_refl _), Nat.sub_self]; rfl, rfl⟩).ok
/-- the addresses that are handed over -/
def adrs (α : List Addr) (ks : List Nat) : List Addr := ks.map fun k => α.getD k 0
theorem adrs_get {ks : List Nat} (hk : ∀ k ∈ ks, k < α.length) {j k : Nat} (h : ks[j]? = some k) : (adrs α ks)[j]? = α[k]? := by
  unfold adrs
  rw [List.getElem?_map, h, List.getElem?_eq_getElem (hk k (List.mem_of_getElem? h))]
  simp [List.getD_eq_getElem?_getD, List.getElem?_eq_getElem (hk k (List.mem_of_getElem? h))]
theorem mem_adrs {ks : List Nat} (hk : ∀ k ∈ ks, k < α.length) {a : Addr} (h : a ∈ adrs α ks) : ∃ k ∈ ks, α[k]? = some a := by
  unfold adrs at h
  obtain ⟨k, h1, h2⟩ := List.mem_map.mp h
  refine ⟨k, h1, ?_⟩
  rw [← h2, List.getElem?_eq_getElem (hk k h1)]
  simp [List.getD_eq_getElem?_getD, List.getElem?_eq_getElem (hk k h1)]
theorem nd_at (nd : α.Nodup) {i j : Nat} {a : Addr} (h1 : α[i]? = some a) (h2 : α[j]? = some a) : i = j := by
  have i1 := List.getElem?_eq_some_iff.mp h1
  have i2 := List.getElem?_eq_some_iff.mp h2
  exact (List.getElem_inj nd).mp (i1.2.trans i2.2.symm)
theorem adrs_nd (nd : α.Nodup) {ks : List Nat} (nk : ks.Nodup) (hk : ∀ k ∈ ks, k < α.length) : (adrs α ks).Nodup := by
  unfold adrs
  induction ks with
  | nil => exact List.nodup_nil
  | cons k ks ih =>
    obtain ⟨n1, n2⟩ := List.nodup_cons.mp nk
    have hk' : ∀ z ∈ ks, z < α.length := fun z hz => hk z (List.mem_cons_of_mem _ hz)
    refine List.nodup_cons.mpr ⟨fun q => ?_, ih n2 hk'⟩
    obtain ⟨j, j1, j2⟩ := mem_adrs hk' q
    have e : α[k]? = some (α.getD k 0) := by
      rw [List.getElem?_eq_getElem (hk k List.mem_cons_self)]
      simp [List.getD_eq_getElem?_getD, List.getElem?_eq_getElem (hk k List.mem_cons_self)]
    have := nd_at nd e j2
    exact n1 (this ▸ j1)
theorem ren_ok {ks : List Nat} (hk : ∀ k ∈ ks, k < α.length) {d' : DV} (h : VOk P w K F α v d) (e : renD ks d = some d') : VOk P w K F (adrs α ks) v d' := by
  cases d with
  | cell k =>
    have e' : (if k ∈ ks then some (DV.cell (ks.idxOf k)) else none) = some d' := e
    split at e'
    · rename_i hm
      cases e'
      obtain ⟨a, h1, h2⟩ := h
      refine ⟨a, ?_, h2⟩
      rw [adrs_get hk (k := k) (get_idx hm)]
      exact h1
    · cases e'
  | imm d => cases e; exact h
  | raw u => cases e; exact h
  | obj φ => cases e; exact h
  | scr ns => cases e; exact h
theorem rens_ok {ks : List Nat} (hk : ∀ k ∈ ks, k < α.length) : ∀ {vs : List V} {ds ds' : List DV}, Paired (VOk P w K F α) vs ds → renDs ks ds = some ds' → Paired (VOk P w K F (adrs α ks)) vs ds'
  | _, _, _, .nil, e => by cases e; exact .nil
  | _, d :: r, ds', .cons h t, e => by
    have e' : (match renD ks d, renDs ks r with | some d', some r' => some (d' :: r') | _, _ => none) = some ds' := e
    cases e1 : renD ks d with
    | none => rw [e1] at e'; cases e'
    | some d1 =>
      cases e2 : renDs ks r with
      | none => rw [e1, e2] at e'; cases e'
      | some r1 =>
        rw [e1, e2] at e'
        cases e'
        exact .cons (ren_ok hk h e1) (rens_ok hk t e2)
theorem StAt.callee {ks : List Nat} {vs : List V} {ds ds' : List DV} (h : StAt P w K B S σ ts H F α) (hv : Paired (VOk P w K F α) vs ds) (nk : ks.Nodup) (hk : ∀ k ∈ ks, k < S.μ.length) (e : renDs ks ds = some ds') :
    StAt P w K ⟨F, H, adrs α ks⟩ ⟨ds'.map some, cellsOf S.μ ks⟩ (vs.map some) [] H F (adrs α ks) := by
  have hk' : ∀ k ∈ ks, k < α.length := fun k z => by rw [h.al]; exact hk k z
  have hp := rens_ok hk' hv e
  refine ⟨h.fh, h.fh, Ex.refl _, fun a o q1 q2 q3 => ⟨q1, q2, q3⟩, List.take_length, fun a q => .inl q, adrs_nd h.nd nk hk', ?_, fun a q => ?_, ?_, fun i d q => ?_, fun p hp => (by cases hp), fun j o q => ?_⟩
  · rw [cellsOf_len]; unfold adrs; rw [List.length_map]
  · obtain ⟨k, _, k2⟩ := mem_adrs hk' q
    exact h.an a (List.mem_of_getElem? k2)
  · rw [List.length_map, List.length_map]; exact (Paired.length hp).symm
  · rw [List.getElem?_map] at q
    cases e2 : ds'[i]? with
    | none => rw [e2] at q; cases q
    | some d2 =>
      rw [e2] at q
      cases q
      have : ∀ {xs : List V} {es : List DV} {i : Nat}, Paired (VOk P w K F (adrs α ks)) xs es → es[i]? = some d → ∃ v, xs[i]? = some v ∧ VOk P w K F (adrs α ks) v d := by
        intro xs es i p
        induction p generalizing i with
        | nil => intro z; simp at z
        | cons z t ih =>
          intro y
          cases i with
          | zero => simp at y; subst y; exact ⟨_, rfl, z⟩
          | succ i => exact ih (by simpa using y)
      obtain ⟨v, g1, g2⟩ := this hp e2
      exact ⟨v, by rw [List.getElem?_map, g1]; rfl, g2⟩
  · have q' : (cellsOf S.μ ks)[j]? = some (some o) := q
    rw [cellsOf_get] at q'
    cases e2 : ks[j]? with
    | none => rw [e2] at q'; cases q'
    | some k =>
      rw [e2] at q'
      obtain ⟨e3, hb⟩ := pickB_eq (Option.some.inj q')
      obtain ⟨a, g1, g2, g3⟩ := h.ce k o e3
      exact ⟨a, by rw [adrs_get hk' e2]; exact g1, g2, g3.bare hb⟩
theorem StAt.back {ks : List Nat} {ρ' : List (Option DV)} {μ' : List (Option DO)} {σ' : L2.St} {us : List (V × DV)} {H' : Hp} (h : StAt P w K B S σ ts H F α) (nk : ks.Nodup) (hk : ∀ k ∈ ks, k < S.μ.length)
    (h' : StAt P w K ⟨F, H, adrs α ks⟩ ⟨ρ', μ'⟩ σ' us H' F' β) : StAt P w K B ⟨S.ρ, backs S.μ ks μ'⟩ σ ts H' F' α := by
  have hk' : ∀ k ∈ ks, k < α.length := fun k z => by rw [h.al]; exact hk k z
  have pre : β.take (adrs α ks).length = adrs α ks := h'.bp
  have inβ : ∀ a, a ∈ adrs α ks → a ∈ β := fun a z => List.mem_of_mem_take (by rw [pre]; exact z)
  refine ⟨h'.fh, h.bh, h.bf.trans h'.bf, fun a o q1 q2 q3 => ?_, h.bp, h.bn, h.nd, ?_, fun a q => ?_, h.len, fun i d q => ?_, fun p hp => (h.tm p hp).up0 h'.bf, fun k o q => ?_⟩
  · obtain ⟨h1, h2, h3⟩ := h.bc a o q1 q2 q3
    obtain ⟨g1, g2, _⟩ := h'.bc a o h1 h2 fun z => by
      obtain ⟨k, _, k2⟩ := mem_adrs hk' z
      exact h3 (List.mem_of_getElem? k2)
    exact ⟨g1, g2, h3⟩
  · show α.length = (backs S.μ ks μ').length
    rw [backs_len]; exact h.al
  · by_cases c : a ∈ adrs α ks
    · exact h'.an a (inβ a c)
    · cases e : H a with
      | none => exact absurd e (h.an a q)
      | some o =>
        cases e2 : F a with
        | none =>
          have := (h'.bc a o e e2 c).1
          rw [this]; exact fun z => by cases z
        | some u =>
          have := h'.fh a u (h'.bf a u e2)
          rw [this]; exact fun z => by cases z
  · obtain ⟨v, g1, g2⟩ := h.sl i d q
    exact ⟨v, g1, g2.up0 h'.bf⟩
  · have q' : (backs S.μ ks μ')[k]? = some (some o) := q
    rw [backs_get ks S.μ μ' k nk hk] at q'
    split at q'
    · rename_i hm
      obtain ⟨e3, hb⟩ := pickB_eq (Option.some.inj q')
      obtain ⟨a, g1, g2, g3⟩ := h'.ce _ o e3
      have hj : ks.idxOf k < ks.length := List.idxOf_lt_length_iff.mpr hm
      have e5 : (adrs α ks)[ks.idxOf k]? = α[k]? := adrs_get hk' (get_idx hm)
      have e4 : α[k]? = some a := by
        rw [← e5, ← pre, List.getElem?_take_of_lt (by unfold adrs; rw [List.length_map]; exact hj)]
        exact g1
      exact ⟨a, e4, g2, g3.bare hb⟩
    · rename_i hm
      obtain ⟨a, g1, g2, g3⟩ := h.ce k o q'
      have na : a ∉ adrs α ks := fun z => by
        obtain ⟨j, j1, j2⟩ := mem_adrs hk' z
        exact hm (nd_at h.nd g1 j2 ▸ j1)
      have hH : ∃ u, H a = some u := by
        cases e : H a with
        | none => exact absurd e (h.an a (List.mem_of_getElem? g1))
        | some u => exact ⟨u, rfl⟩
      obtain ⟨u, hu⟩ := hH
      obtain ⟨k1, k2, _⟩ := h'.bc a u hu g2 na
      exact ⟨a, g1, k2, g3.up0 h'.bf (by rw [hu]; exact k1)⟩
theorem snd_call {ta : TA} {da : DTA} {dsp : DSp} {dvs : List V} {dds : List DV} {E : XK} (ha : SndA P w K ta da) (hdv : ∀ (F : Hp) (α : List Addr), Paired (VOk P w K F α) dvs dds) :
    SndE P w K (tCall (spD P w K dsp) dvs E ta) (dCall dsp dds da) := fun B S σ ts H R Q h hd k =>
  ha B S σ ts H _ _ h hd fun vs ds S1 H1 hl q o => by
    obtain ⟨ks, q⟩ := q
    unfold kCall at q
    cases e : renDs ks (ds ++ dds) with
    | none => rw [e] at q; exact q.elim
    | some ds' =>
      rw [e] at q
      obtain ⟨nk, hk, q⟩ := q
      obtain ⟨F, α, o⟩ := o
      have hp : Paired (VOk P w K F α) (vs ++ dvs) (ds ++ dds) := Paired.app' (o.args hl) (hdv F α)
      have o' : StAt P w K B S1 σ ts H1 F α := o.sub memA
      have oc := o'.callee hp nk hk e
      refine ⟨F, adrs α ks, ds', cellsOf S1.μ ks, _, oc, ?_, q, fun v d ρ σ' μ' H' r z => ?_⟩
      · have := oc.len
        rw [List.length_map, List.length_map] at this
        exact this.symm
      · obtain ⟨F', β, z⟩ := z
        have ob := o'.back nk hk z
        have hk' : ∀ k ∈ ks, k < α.length := fun k y => by rw [o'.al]; exact hk k y
        have pre : β.take (adrs α ks).length = adrs α ks := z.bp
        have al : (adrs α ks).length = ks.length := by unfold adrs; rw [List.length_map]
        have fin : ∀ d, d.bare = true → VOk P w K F' β v d → R d ⟨S1.ρ, backs S1.μ ks μ'⟩ → Q v H' := fun d hb hv r => k v d _ H' r (ob.add (hv.bare hb)).ok
        cases d with
        | cell j =>
          have r' : if h : j < ks.length then R (.cell ks[j]) ⟨S1.ρ, backs S1.μ ks μ'⟩ else match μ'[j]? with
            | some (some o) => if o.bare = true then R (.cell S1.μ.length) ⟨S1.ρ, backs S1.μ ks μ' ++ [some o]⟩ else False
            | _ => False := r
          obtain ⟨a, a1, a2⟩ := z.top
          by_cases c : j < ks.length
          · rw [dif_pos c] at r'
            refine k v _ _ H' r' (ob.add (d := .cell ks[j]) ⟨a, ?_, a2⟩).ok
            have e1 : ks[j]? = some ks[j] := List.getElem?_eq_getElem c
            rw [← adrs_get hk' e1, ← pre, List.getElem?_take_of_lt (by rw [al]; exact c)]
            exact a1
          · rw [dif_neg c] at r'
            split at r'
            · rename_i o1 e1
              split at r'
              · rename_i hb
                obtain ⟨a', b1, b2, b3⟩ := z.ce j o1 e1
                cases a1.symm.trans b1
                have hn : H1 a = none := by
                  rcases z.bn a (List.mem_of_getElem? a1) with y | y
                  · exfalso
                    obtain ⟨i, hi, ei⟩ := List.mem_iff_getElem.mp (show a ∈ adrs α ks from y)
                    have h3 : β[i]? = some a := by
                      have : (β.take (adrs α ks).length)[i]? = some a := by rw [pre, List.getElem?_eq_getElem hi, ei]
                      rwa [List.getElem?_take_of_lt hi] at this
                    have := nd_at z.nd h3 a1
                    rw [al] at hi
                    omega
                  · exact y
                have na : a ∉ α := fun y => o'.an a y hn
                refine k v _ _ H' r' (((ob.adopt na b2 (z.an a (List.mem_of_getElem? a1)) (o'.freshB hn) (b3.bare hb)).add (d := .cell S1.μ.length) ⟨a, ?_, a2⟩)).ok
                rw [← o'.al, List.getElem?_append_right (Nat.le_refl _), Nat.sub_self]; rfl
              · exact r'.elim
            · exact r'.elim
        | imm d => exact fin _ rfl z.top r
        | raw u => exact fin _ rfl z.top r
        | obj φ => exact fin _ rfl z.top r
        | scr ns => exact fin _ rfl z.top r
end
section
variable {X : Cx} {k : Nat} {f : Addr} {fd : FuncData} {ps : List Str} {dsp : DSp} {ds : List Value} {dvs : List V} {dds : List DV} {x : Str} {p pos : Pos} {e : Expr} {es : List Expr} {da : DTA}
theorem de_call (F : DFn X.prog X.w X.K X.mg X.base k f fd ps dsp) (hr : Room k X.A) (hgd : X.A.guards = some []) (hg : Gl X x) (hm : X.mg x = some (.ref f)) (hk : PySem.W.keepIn X.K (.ref f) = true) (hb : Binds X.K fd ps ds) (hd : Vals dvs ds) (hdv : ∀ (F : Hp) (α : List Addr), Paired (VOk X.prog X.w X.K F α) dvs dds)
    (ha : DA X (e :: es) da) (hdb : (x == ("__debug__" : Str)) = false := by decide) (he : starEach (e :: es) X.env = (false, eval e X.env) :: starEach es X.env := by rfl) (hpl : (backTo pos (starEach es X.env)).any (·.1) = false := by rfl) :
    DE X (.Call (.Name x p) (e :: es) [] pos) (dCall dsp dds da) := by
  obtain ⟨t, a1, a2⟩ := ha.ex
  exact ⟨_, pe_callG (E := fun _ _ _ => False) F.fn hr hgd hg hm hk hb hd pass0 a1 hdb he hpl, snd_call a2 hdv⟩
theorem de_call0 (F : DFn X.prog X.w X.K X.mg X.base k f fd ps dsp) (hr : Room k X.A) (hgd : X.A.guards = some []) (hg : Gl X x) (hm : X.mg x = some (.ref f)) (hk : PySem.W.keepIn X.K (.ref f) = true) (hb : Binds X.K fd ps ds) (hd : Vals dvs ds) (hdv : ∀ (F : Hp) (α : List Addr), Paired (VOk X.prog X.w X.K F α) dvs dds)
    (hdb : (x == ("__debug__" : Str)) = false := by decide) : DE X (.Call (.Name x p) [] [] pos) (dCall dsp dds dNil) :=
  ⟨_, pe_call0G (E := fun _ _ _ => False) F.fn hr hgd hg hm hk hb hd pass0 hdb, snd_call snd_nil hdv⟩
end
end DL

set_option Elab.async false
set_option linter.all false
set_option maxRecDepth 100000
set_option autoImplicit false
set_option maxHeartbeats 2000000
namespace DL
open PySem PySem.Spec L2

/-! ## comprehensions -/
structure DTs (X : Cx) (ifs : List Expr) (dt : DTT) : Prop where
  ex : ∃ tt, PTs X ifs tt ∧ SndT X.prog X.w X.K tt dt
def dYes : DTT := fun S R => R true S
/-! the weakest readings that carry a data reading -/
section
variable (P : Program) (w : World) (K : PySem.W.Frag)
def canE (de : DTE) : TE := fun σ H Q => ∃ (B : Bs) (S : DSt) (ts : List (V × DV)) (R : DV → DSt → Prop), StOk P w K B S σ ts H ∧ de S R ∧ ∀ v d S' H', R d S' → StOk P w K B S' σ ((v, d) :: ts) H' → Q v H'
def canT (dt : DTT) : TT := fun σ H Q => ∃ (B : Bs) (S : DSt) (ts : List (V × DV)) (R : Bool → DSt → Prop), StOk P w K B S σ ts H ∧ dt S R ∧ ∀ b S' H', R b S' → StOk P w K B S' σ ts H' → Q b H'
def canG (js : List Nat) (dg : DTG) : TG := fun v σ H Q => ∃ (B : Bs) (S : DSt) (ts : List (V × DV)) (y : DY) (R : DSt → Prop), StY P w K B S σ ts H v y ∧ dg y S R ∧
  ∀ S' σ' H', R S' → S'.μ = S.μ → (∀ vs : List Nat, (∀ j ∈ js, j ∈ vs) → wipe σ' vs = wipe σ vs) → StOk P w K B S' σ' ts H' → Q σ' H'
end
section
variable {P : Program} {w : World} {K : PySem.W.Frag}
theorem snd_canE (de : DTE) : SndE P w K (canE P w K de) de := fun B S σ ts H R Q h hd k => ⟨B, S, ts, R, h, hd, k⟩
theorem snd_canT (dt : DTT) : SndT P w K (canT P w K dt) dt := fun B S σ ts H R Q h hd k => ⟨B, S, ts, R, h, hd, k⟩
theorem snd_canG (js : List Nat) (dg : DTG) : SndG P w K js (canG P w K js dg) dg := fun B S σ ts H v y R Q h hd k => ⟨B, S, ts, y, R, h, hd, k⟩
end
section
variable {X : Cx} {e : Expr} {es : List Expr} {de : DTE} {dt : DTT} {js : List Nat} {dg : DTG}
theorem DE.can (h : DE X e de) : PE X e (canE X.prog X.w X.K de) := by
  obtain ⟨t, a1, a2⟩ := h.ex
  exact ⟨fun pins s σ H Q I ⟨B, S, ts, R, o, hd, k⟩ => a1.run pins s σ H Q I (a2 B S σ ts H R Q o hd k)⟩
theorem DTs.can (h : DTs X es dt) : PTs X es (canT X.prog X.w X.K dt) := by
  obtain ⟨t, a1, a2⟩ := h.ex
  exact ⟨fun pins s σ H Q I ⟨B, S, ts, R, o, hd, k⟩ => a1.run pins s σ H Q I (a2 B S σ ts H R Q o hd k)⟩
theorem DG.can (h : DG X e js dg) : PG X e (canG X.prog X.w X.K js dg) := by
  obtain ⟨t, a1, a2⟩ := h.ex
  exact ⟨fun pins s σ H v u Q I r ⟨B, S, ts, y, R, o, hd, k⟩ => a1.run pins s σ H v u Q I r (a2 B S σ ts H v y R Q o hd k)⟩
theorem dts_nil : DTs X [] dYes := ⟨_, pts_nil, fun B S σ ts H R Q h hd k => k true S H hd h⟩
theorem dts_one (h : DT X e dt) : DTs X [e] dt := by
  obtain ⟨t, a1, a2⟩ := h.ex
  exact ⟨_, pts_one a1, a2⟩
/-- the context of a comprehension's block -/
abbrev blkX (X : Cx) (scope : Scope) (s : Shared) (H : Hp) (C : Addr) (cl : List (Str × Addr)) (fp : List Addr) : Cx := X.blk s H scope (compEnvC scope cl C X.env) fp
/-- [elt for tg in iter if ..] -/
theorem de_lc {own : List (Str × Nat)} {elt tg iter : Expr} {ifs : List Expr} {scope : Scope} {pos : Pos} {di : DTI} (hc : X.calm = true) (hN : X.N.Nodup) (hi : DI X tg iter di) (ok : BlkOk X.N X.env.scope scope own)
    (blk : ∀ (s : Shared) (H : Hp) (C : Addr) (cl : List (Str × Addr)) (fp : List Addr), DG (blkX X scope s H C cl fp) tg js dg ∧ DTs (blkX X scope s H C cl fp) ifs dt ∧ DE (blkX X scope s H C cl fp) elt de)
    (hj : ∀ j ∈ js, j ∈ own.map (·.2)) (hs : ∀ x, foldedSetIterable iter X.env x = pure x := by intro _; rfl) : DE X (.ListComp elt [⟨tg, iter, ifs, 0⟩] scope pos) (dLc di dg dt de (own.map (·.2))) := by
  obtain ⟨wi, a1, a2⟩ := hi.ex
  have b := blk
  exact ⟨_, pe_lc (g := canG X.prog X.w X.K js dg) (tt := canT X.prog X.w X.K dt) (te := canE X.prog X.w X.K de) hc hN a1 ok (fun s H C cl fp => (b s H C cl fp).1.can) (fun s H C cl fp => (b s H C cl fp).2.1.can) (fun s H C cl fp => (b s H C cl fp).2.2.can) hs, snd_lc a2 (snd_canG js dg) (snd_canT dt) (snd_canE de) hj⟩
/-- y = [..] -/
theorem ds_setLc {i : Nat} {y : Str} {py : Pos} {own : List (Str × Nat)} {elt tg iter : Expr} {ifs : List Expr} {scope : Scope} {pos spos : Pos} {di : DTI} (hc : X.calm = true) (hN : X.N.Nodup) (hy : X.N[i]? = some y) (hyl : X.env.scope.names.lookup y = some .local)
    (hsw : swapsWith (.ListComp elt [⟨tg, iter, ifs, 0⟩] scope pos) (some (.Name y py)) spos.line X.env = pure true) (hi : DI X tg iter di) (ok : BlkOk X.N X.env.scope scope own)
    (blk : ∀ (s : Shared) (H : Hp) (C : Addr) (cl : List (Str × Addr)) (fp : List Addr), DG (blkX X scope s H C cl fp) tg js dg ∧ DTs (blkX X scope s H C cl fp) ifs dt ∧ DE (blkX X scope s H C cl fp) elt de)
    (hj : ∀ j ∈ js, j ∈ own.map (·.2)) (hs : ∀ x, foldedSetIterable iter X.env x = pure x := by intro _; rfl) : DS X (.Assign [.Name y py] (.ListComp elt [⟨tg, iter, ifs, 0⟩] scope pos) spos) (dAsg (dLc di dg dt de (own.map (·.2))) (dgName i)) := by
  obtain ⟨wi, a1, a2⟩ := hi.ex
  have b := blk
  refine ⟨_, ps_setLc (g := canG X.prog X.w X.K js dg) (tt := canT X.prog X.w X.K dt) (te := canE X.prog X.w X.K de) hc hN hy hyl hsw a1 ok (fun s H C cl fp => (b s H C cl fp).1.can) (fun s H C cl fp => (b s H C cl fp).2.1.can) (fun s H C cl fp => (b s H C cl fp).2.2.can) hs, fun B S σ ts H D G h hd l => ?_⟩
  refine snd_lc a2 (snd_canG js dg) (snd_canT dt) (snd_canE de) hj B S σ ts H _ _ h hd fun v d S1 H1 q o => ?_
  obtain ⟨F, α, o⟩ := o
  exact l.nx _ _ H1 q ((o.setSlot o.top).sub mem1).ok
/-- .. that becomes a cell -/
theorem de_lcC {own : List (Str × Nat)} {elt tg iter : Expr} {ifs : List Expr} {scope : Scope} {pos : Pos} {di : DTI} (hc : X.calm = true) (hN : X.N.Nodup) (hi : DI X tg iter di) (ok : BlkOk X.N X.env.scope scope own)
    (blk : ∀ (s : Shared) (H : Hp) (C : Addr) (cl : List (Str × Addr)) (fp : List Addr), DG (blkX X scope s H C cl fp) tg js dg ∧ DTs (blkX X scope s H C cl fp) ifs dt ∧ DE (blkX X scope s H C cl fp) elt de)
    (hj : ∀ j ∈ js, j ∈ own.map (·.2)) (hs : ∀ x, foldedSetIterable iter X.env x = pure x := by intro _; rfl) : DE X (.ListComp elt [⟨tg, iter, ifs, 0⟩] scope pos) (dLcC di dg dt de (own.map (·.2))) := by
  obtain ⟨wi, a1, a2⟩ := hi.ex
  have b := blk
  exact ⟨_, pe_lc (g := canG X.prog X.w X.K js dg) (tt := canT X.prog X.w X.K dt) (te := canE X.prog X.w X.K de) hc hN a1 ok (fun s H C cl fp => (b s H C cl fp).1.can) (fun s H C cl fp => (b s H C cl fp).2.1.can) (fun s H C cl fp => (b s H C cl fp).2.2.can) hs, snd_lcC a2 (snd_canG js dg) (snd_canT dt) (snd_canE de) hj⟩
theorem ds_setLcC {i : Nat} {y : Str} {py : Pos} {own : List (Str × Nat)} {elt tg iter : Expr} {ifs : List Expr} {scope : Scope} {pos spos : Pos} {di : DTI} (hc : X.calm = true) (hN : X.N.Nodup) (hy : X.N[i]? = some y) (hyl : X.env.scope.names.lookup y = some .local)
    (hsw : swapsWith (.ListComp elt [⟨tg, iter, ifs, 0⟩] scope pos) (some (.Name y py)) spos.line X.env = pure true) (hi : DI X tg iter di) (ok : BlkOk X.N X.env.scope scope own)
    (blk : ∀ (s : Shared) (H : Hp) (C : Addr) (cl : List (Str × Addr)) (fp : List Addr), DG (blkX X scope s H C cl fp) tg js dg ∧ DTs (blkX X scope s H C cl fp) ifs dt ∧ DE (blkX X scope s H C cl fp) elt de)
    (hj : ∀ j ∈ js, j ∈ own.map (·.2)) (hs : ∀ x, foldedSetIterable iter X.env x = pure x := by intro _; rfl) : DS X (.Assign [.Name y py] (.ListComp elt [⟨tg, iter, ifs, 0⟩] scope pos) spos) (dAsg (dLcC di dg dt de (own.map (·.2))) (dgName i)) := by
  obtain ⟨wi, a1, a2⟩ := hi.ex
  have b := blk
  refine ⟨_, ps_setLc (g := canG X.prog X.w X.K js dg) (tt := canT X.prog X.w X.K dt) (te := canE X.prog X.w X.K de) hc hN hy hyl hsw a1 ok (fun s H C cl fp => (b s H C cl fp).1.can) (fun s H C cl fp => (b s H C cl fp).2.1.can) (fun s H C cl fp => (b s H C cl fp).2.2.can) hs, fun B S σ ts H D G h hd l => ?_⟩
  refine snd_lcC a2 (snd_canG js dg) (snd_canT dt) (snd_canE de) hj B S σ ts H _ _ h hd fun v d S1 H1 q o => ?_
  obtain ⟨F, α, o⟩ := o
  exact l.nx _ _ H1 q ((o.setSlot o.top).sub mem1).ok
end
end DL

set_option Elab.async false
set_option linter.all false
set_option maxRecDepth 100000
set_option autoImplicit false
set_option maxHeartbeats 2000000
namespace DL
open PySem PySem.Spec L2

/-! ## how long a text of data is, at the most -/
mutual
def wtD : PyData → Nat
  | .none => 5
  | .bool _ => 5
  | .int i => i.natAbs.log2 + 3
  | .str x => (reprText x).length
  | .list xs => wtAll xs + 4
  | .tuple xs => wtAll xs + 4
  | .dict kvs => wtKv kvs + 4
def wtAll : List PyData → Nat
  | [] => 0
  | x :: xs => wtD x + 2 + wtAll xs
def wtKv : List (PyData × PyData) → Nat
  | [] => 0
  | (k, v) :: r => wtD k + wtD v + 4 + wtKv r
end
def lens (ts : List Str) : Nat := (ts.map fun t => t.length + 2).sum
theorem lens_cons (t : Str) (ts : List Str) : lens (t :: ts) = t.length + 2 + lens ts := by simp [lens]
theorem textFrom_top : ∀ (ts : List Str) (k : Nat) (acc : Str), (textFrom k acc ts).length ≤ acc.length + lens ts
  | [], _, _ => Nat.le_refl _
  | t :: ts, k, acc => by
    have h := textFrom_top ts (k + 1) (acc ++ (if k > 0 then ", " else "" : String) ++ t)
    have e : (acc ++ (if k > 0 then ", " else "" : String) ++ t : Str).length ≤ acc.length + (t.length + 2) := by
      rw [Str.length_append, Str.length_append]
      have : ((if k > 0 then ", " else "" : String) : Str).length ≤ 2 := by split <;> decide
      omega
    rw [lens_cons]
    show (textFrom (k + 1) _ ts).length ≤ _
    omega
theorem join_top : ∀ ts : List Str, (Str.join ", " ts).length ≤ lens ts
  | [] => by decide
  | [x] => by show x.length ≤ _; rw [lens_cons]; omega
  | x :: y :: r => by
    have h := join_top (y :: r)
    rw [lens_cons]
    show ((x ++ ", " ++ Str.join ", " (y :: r) : Str)).length ≤ _
    rw [Str.length_append, Str.length_append]
    have : ((", " : String) : Str).length = 2 := rfl
    omega
theorem list_top (ts : List Str) : (listText ts).length ≤ lens ts + 4 := by
  unfold listText
  rw [Str.length_append]
  have h := textFrom_top ts 0 "["
  have e1 : (("[" : String) : Str).length = 1 := rfl
  have e2 : (("]" : String) : Str).length = 1 := rfl
  omega
theorem tuple_top (ts : List Str) : (tupleText ts).length ≤ lens ts + 4 := by
  unfold tupleText
  rw [Str.length_append, Str.length_append]
  have h := join_top ts
  have e1 : (("(" : String) : Str).length = 1 := rfl
  have e2 : (((if ts.length == 1 then ",)" else ")" : String) : Str)).length ≤ 2 := by split <;> decide
  omega
theorem dict_top (ts : List Str) : (dictText ts).length ≤ lens ts + 4 := by
  unfold dictText
  rw [Str.length_append, Str.length_append]
  have h := join_top ts
  have e1 : (("{" : String) : Str).length = 1 := rfl
  have e2 : (("}" : String) : Str).length = 1 := rfl
  omega
mutual
theorem shown_le : ∀ d : PyData, d.shown.length ≤ wtD d
  | .none => by simp only [PyData.shown, wtD]; decide
  | .bool b => by cases b <;> simp only [PyData.shown, wtD] <;> decide
  | .int i => by
    simp only [PyData.shown, wtD]
    have h := int_text_length_le (a := i) (k := i.natAbs.log2 + 1) (Nat.succ_pos _) (Nat.lt_succ_self _)
    have e : ((toString i : String) : Str).length = (toString i).length := PySem.ofString_length _
    omega
  | .str x => by simp only [PyData.shown, wtD]; exact Nat.le_refl _
  | .list xs => by
    simp only [PyData.shown, wtD]
    have h := list_top (PyData.shownAll xs)
    have h2 := lens_le xs
    omega
  | .tuple xs => by
    simp only [PyData.shown, wtD]
    have h := tuple_top (PyData.shownAll xs)
    have h2 := lens_le xs
    omega
  | .dict kvs => by
    simp only [PyData.shown, wtD]
    have h := dict_top (PyData.shownKv kvs)
    have h2 := lensKv_le kvs
    omega
theorem lens_le : ∀ ds : List PyData, lens (PyData.shownAll ds) ≤ wtAll ds
  | [] => by simp only [PyData.shownAll, wtAll]; exact Nat.le_refl _
  | d :: ds => by
    have h1 := shown_le d
    have h2 := lens_le ds
    simp only [PyData.shownAll, wtAll, lens_cons]
    omega
theorem lensKv_le : ∀ ds : List (PyData × PyData), lens (PyData.shownKv ds) ≤ wtKv ds
  | [] => by simp only [PyData.shownKv, wtKv]; exact Nat.le_refl _
  | (k, v) :: ds => by
    have h1 := shown_le k
    have h3 := shown_le v
    have h2 := lensKv_le ds
    simp only [PyData.shownKv, wtKv, lens_cons]
    rw [Str.length_append, Str.length_append]
    have e2 : ((": " : String) : Str).length = 2 := rfl
    omega
end
/-- data that may be shown -/
def CanShow (d : PyData) : Prop := d.showable = true ∧ wtD d ≤ 10000000 ∧ d.depth ≤ 50 ∧ d.hasDict = false
theorem CanShow.fits {d : PyData} (h : CanShow d) : d.shown.length ≤ sizeLine := by
  have h1 := shown_le d
  have h2 := h.2.1
  rw [sizeLine_eq]
  omega

/-! ## data as it lies in the store -/
section
variable {X : Cx} {pins : List (Addr × Obj)} {σ : L2.St} {H F : Hp} {s : Shared}
mutual
theorem reads_of (I : Inv X pins σ H s) (e : Ex F H) : ∀ {d : PyData} {v : V}, Rp X.prog X.w X.K F v d → ∀ {u : Value}, RelV v u → ∃ as, Reads s.heap u d as
  | .none, _, .non, u, r => by cases (show u = Value.none from r); exact ⟨_, .none⟩
  | .bool b, _, .bl _, u, r => by cases (show u = Value.bool b from r); exact ⟨_, .bool b⟩
  | .int i, _, .int _, u, r => by obtain ⟨t, rfl⟩ := (show ∃ t, u = Value.int i t from r); exact ⟨_, .int i t⟩
  | .str x, _, .str _, u, r => by obtain ⟨t, rfl⟩ := (show ∃ t, u = Value.str x t from r); exact ⟨_, .str x t⟩
  | .list ds, _, .lst (a := a) (xs := xs) h hr, u, r => by
    cases (show u = Value.ref a from r)
    have hH := e _ _ h
    obtain ⟨_, its, n, rv, ho⟩ := (show ObjOk X.prog X.w H s.heap a (.lst xs) from I.hok a _ hH)
    obtain ⟨as, ra⟩ := readsAll_of I e hr rv
    exact ⟨_, .list ho rfl rfl ra⟩
  | .tuple ds, _, .tup (a := a) (xs := xs) h hr, u, r => by
    cases (show u = Value.ref a from r)
    obtain ⟨its, rv, ⟨o, ho, hc, n, hd⟩, _⟩ := I.tuple (h.up e).t
    obtain ⟨as, ra⟩ := readsAll_of I e hr rv
    exact ⟨_, .tuple ho hc hd ra⟩
  | .dict ps, _, .dic (a := a) (kvs := kvs) h hk hr, u, r => by
    cases (show u = Value.ref a from r)
    obtain ⟨⟨_, hs, vs, rel, o, es, ep, ho, hx, hd, _, hp, _⟩, _⟩ := (show ObjOk X.prog X.w H s.heap a (DicO X.prog X.w a kvs) from I.hok a _ (e _ _ h))
    have kk : ∀ (kvs : List (Leaf × V)) (vs : List (Leaf × Value)) (es : List DictEntry) (ps : List (PyData × PyData)), KV kvs vs → Pairs (cK X.prog X.w) es vs → ps.map (·.1) = kvs.map (fun p => kvD p.1) → (∃ as, ReadsAll s.heap (es.map (·.key)) (ps.map (·.1)) as) ∧ Vals (kvs.map (·.2)) (es.map (·.val)) := by
      intro kvs
      induction kvs with
      | nil => intro vs es ps r1 r2 r3; cases r1; cases r2; cases ps with
        | nil => exact ⟨⟨_, .nil⟩, .nil⟩
        | cons _ _ => simp at r3
      | cons q kvs ih => intro vs es ps r1 r2 r3; cases r1 with
        | cons q1 q2 => cases r2 with
          | cons p1 p2 p3 => cases ps with
            | nil => simp at r3
            | cons p ps =>
              simp only [List.map_cons, List.cons.injEq] at r3
              obtain ⟨⟨as, i1⟩, i3⟩ := ih _ _ ps q2 p3 r3.2
              obtain ⟨k, v⟩ := q
              obtain ⟨q1a, q1b⟩ := q1
              dsimp only at q1a q1b r3
              have rk := ck_rel p1
              rw [← q1a] at rk
              refine ⟨?_, .cons (by dsimp only; rw [p2]; exact q1b) i3⟩
              rw [List.map_cons, List.map_cons, r3.1]
              cases k with
              | none => rw [show (_ : DictEntry).key = Value.none from rk]; exact ⟨_, .cons .none i1⟩
              | num i => obtain ⟨t, ht⟩ := (show ∃ t, _ = Value.int i t from rk); rw [ht]; exact ⟨_, .cons (.int i t) i1⟩
              | text i => obtain ⟨t, ht⟩ := (show ∃ t, _ = Value.str i t from rk); rw [ht]; exact ⟨_, .cons (.str i t) i1⟩
    obtain ⟨⟨as, i1⟩, i3⟩ := kk kvs vs es.toList ps rel hp hk
    obtain ⟨bs, j1⟩ := readsAll_of I e hr i3
    exact ⟨_, .dict ho hx.1 hd i1 j1⟩
theorem readsAll_of (I : Inv X pins σ H s) (e : Ex F H) : ∀ {ds : List PyData} {vs : List V}, RpAll X.prog X.w X.K F vs ds → ∀ {us : List Value}, Vals vs us → ∃ as, ReadsAll s.heap us ds as
  | [], _, .nil, _, r => by cases r; exact ⟨_, .nil⟩
  | _ :: _, _, .cons h hr, _, r => by
    cases r with
    | cons r1 r2 =>
      obtain ⟨as, a1⟩ := reads_of I e h r1
      obtain ⟨bs, b1⟩ := readsAll_of I e hr r2
      exact ⟨_, .cons a1 b1⟩
end
end

/-! ## repr(x) -/
def rRepr (P : Program) (w : World) (K : PySem.W.Frag) : List V → Hp → VK → Prop := fun vs H Q => ∃ (v : V) (d : PyData) (F : Hp), vs = [v] ∧ Ex F H ∧ Rp P w K F v d ∧ CanShow d ∧ Q (.str d.shown) H
theorem call_reprZ {X : Cx} (hg : X.A.guards = some []) (hu : X.A.units + 60 < cLine) : CallR X (.builtin "repr") (rRepr X.prog X.w X.K) := by
  intro pins s σ H vs us Q I r h
  obtain ⟨v, d, F, rfl, e, hr, hc, q⟩ := h
  obtain ⟨u, rfl, ru⟩ := vals1 r
  obtain ⟨as, ra⟩ := reads_of I e hr ru
  have hf := hc.fits
  cases d with
  | none => cases hr; cases (show u = Value.none from ru); exact P.repr_of_none ⟨.str _, H, I.tok _, ⟨_, rfl⟩, by simpa only [PyData.shown] using q⟩
  | bool b => cases hr; cases (show u = Value.bool b from ru); exact P.repr_of_bool ⟨.str _, H, I.tok _, ⟨_, rfl⟩, by simpa only [PyData.shown] using q⟩
  | int i =>
    cases hr
    obtain ⟨t, rfl⟩ := (show ∃ t, u = Value.int i t from ru)
    exact P.repr_of_int (by simpa [PyData.showable] using hc.1) ⟨.str _, H, I.tok _, ⟨_, rfl⟩, by simpa only [PyData.shown] using q⟩
  | str x =>
    cases hr
    obtain ⟨t, rfl⟩ := (show ∃ t, u = Value.str x t from ru)
    exact P.repr_of_str ⟨.str _, H, I.tok _, ⟨_, rfl⟩, by simpa only [PyData.shown] using q⟩ (by simpa only [PyData.shown] using hf)
  | list xs =>
    cases hr
    cases (show u = _ from ru)
    exact repr_of_reads' ra hc.1 (fun z => by rw [hc.2.2.2] at z; cases z) hg (by have := hc.2.2.1; omega) (fun _ _ e => e) (fun h' u tk hk => ⟨.str _, H, I.kept hk, ⟨_, rfl⟩, q⟩) hf
  | tuple xs =>
    cases hr
    cases (show u = _ from ru)
    exact repr_of_reads' ra hc.1 (fun z => by rw [hc.2.2.2] at z; cases z) hg (by have := hc.2.2.1; omega) (fun _ _ e => e) (fun h' u tk hk => ⟨.str _, H, I.kept hk, ⟨_, rfl⟩, q⟩) hf
  | dict xs =>
    cases hr
    cases (show u = _ from ru)
    exact repr_of_reads' ra hc.1 (fun z => by rw [hc.2.2.2] at z; cases z) hg (by have := hc.2.2.1; omega) (fun _ _ e => e) (fun h' u tk hk => ⟨.str _, H, I.kept hk, ⟨_, rfl⟩, q⟩) hf
def gRepr : DC1 := fun ds S R => match ds with
  | [.imm d] => CanShow d ∧ R (dS d.shown) S
  | _ => False
theorem cd_repr {X : Cx} (hg : X.A.guards = some []) (hu : X.A.units + 60 < cLine) : CallD X (.builtin "repr") gRepr := ⟨_, call_reprZ hg hu, fun B S σ ts H xs ds R Q hl h hd k => by
  match ds, hd with
  | [.imm d], hd =>
    match xs, hl with
    | [x], _ =>
      obtain ⟨F, α, h⟩ := h
      exact ⟨x, d, F, rfl, h.fh, h.tm (x, .imm d) (by simp), hd.1, k _ _ S H hd.2 ((h.sub memA).add vstr).ok⟩⟩
end DL

set_option Elab.async false
set_option linter.all false
set_option maxRecDepth 100000
set_option autoImplicit false
set_option maxHeartbeats 2000000
namespace DL
open PySem PySem.Spec L2

/-! ## built-ins -/
def tyNames : List String := ["NoneType", "bool", "int", "str", "list", "tuple", "dict"]
def isiT (t c : String) : Bool := t == c || (t == "bool" && c == "int")
theorem isi_ok : ∀ t ∈ tyNames, ∀ c ∈ tyNames, kitB t c = some (isiT t c) := by decide +kernel
def tyI : PyData → String
  | .none => "NoneType"
  | .bool _ => "bool"
  | .int _ => "int"
  | .str _ => "str"
  | .list _ => "list"
  | .tuple _ => "tuple"
  | .dict _ => "dict"
theorem tyI_mem (d : PyData) : tyI d ∈ tyNames := by cases d <;> simp [tyI, tyNames]
def tyD (S : DSt) : DV → Option String
  | .imm d => some (tyI d)
  | .cell k => match S.cell k with
    | some (.lst _) => some "list"
    | some (.dic _) => some "dict"
    | _ => none
  | _ => none
def TyZ (P : Program) (w : World) (K : PySem.W.Frag) (H : Hp) (x : V) (t : Value) : Prop := TyX K H x t ∨ ∃ a kvs, x = .ref a ∧ H a = some (DicO P w a kvs) ∧ t = .type "dict"
def rIsiZ (P : Program) (w : World) (K : PySem.W.Frag) : List V → Hp → VK → Prop := fun xs H Q => ∃ (x : V) (c t : String) (b : Bool), xs = [x, .ty c] ∧ TyZ P w K H x (.type t) ∧ kitB t c = some b ∧ Q (.bl b) H
theorem call_isiZ {X : Cx} : CallR X (.builtin "isinstance") (rIsiZ X.prog X.w X.K) := by
  intro pins s σ H xs us Q I r h
  obtain ⟨x, c, t, b, rfl, ty, e, q⟩ := h
  rcases ty with ty | ⟨a, kvs, rfl, hH, ht⟩
  · exact call_isi pins s σ H _ us Q I r ⟨x, _, _, _, b, rfl, .ty c, ty, kit_ty e, q⟩
  · cases ht
    obtain ⟨u1, u2, rfl, r1, r2⟩ := vals2 r
    cases (show u1 = Value.ref a from r1)
    cases (show u2 = Value.type c from r2)
    obtain ⟨⟨_, _, vs, _, o, es, ep, ho, hx, _⟩, _⟩ := (show ObjOk X.prog X.w H s.heap a (DicO X.prog X.w a kvs) from I.hok a _ hH)
    exact PySem.W.kia_one PySem.W.kitx_dict I.kIn ⟨o, ho, hx.1⟩ (kit_ty e) (fun z => nomatch z) fun tk => ⟨.bl b, H, I.tok tk, rfl, q⟩
section
variable {P : Program} {w : World} {K : PySem.W.Frag} {B : Bs} {S S' : DSt} {σ : L2.St} {ts : List (V × DV)} {H F F' : Hp} {α : List Addr} {v : V} {d : DV}
theorem StAt.ty (h : StAt P w K B S σ ts H F α) (hv : VOk P w K F α v d) {t : String} (e : tyD S d = some t) : TyZ P w K H v (.type t) ∧ t ∈ tyNames := by
  cases d with
  | imm d =>
    cases e
    refine ⟨?_, tyI_mem d⟩
    cases hv with
    | non => exact .inl (.base .non)
    | bl b => exact .inl (.base (.bl b))
    | int b => exact .inl (.base (.int b))
    | str b => exact .inl (.base (.str b))
    | lst h1 h2 => exact .inl (.base (.lst (h.fh _ _ h1)))
    | tup h1 h2 => obtain ⟨ob, _, q⟩ := h1; exact .inl (.fTuple (h.fh _ _ q))
    | dic h1 h2 h3 => exact .inr ⟨_, _, rfl, h.fh _ _ h1, rfl⟩
  | cell k =>
    obtain ⟨a, h1, rfl⟩ := hv
    have e : (match S.cell k with | some (.lst _) => some "list" | some (.dic _) => some "dict" | _ => none) = some t := e
    cases q : S.cell k with
    | none => rw [q] at e; cases e
    | some o =>
      obtain ⟨a', g1, _, g3⟩ := h.ce k _ (cell_get q)
      cases h1.symm.trans g1
      rw [q] at e
      cases o with
      | lst es => cases e; obtain ⟨xs, g4, _⟩ := g3; exact ⟨.inl (.base (.lst g4)), by simp [tyNames]⟩
      | dic _ => cases e; obtain ⟨xs, g4, _⟩ := g3; exact ⟨.inr ⟨_, _, rfl, g4, rfl⟩, by simp [tyNames]⟩
      | ins _ _ => cases e
      | ho _ => cases e
      | lck _ _ => cases e
  | raw _ => cases e
  | obj _ => cases e
  | scr _ => cases e
end
def gIsi : DC1 := fun ds S R => match ds with
  | [x, .raw (.ty c)] => match tyD S x with
    | some t => c ∈ tyNames ∧ R (dB (isiT t c)) S
    | none => False
  | _ => False
section
variable {X : Cx}
theorem cd_isi : CallD X (.builtin "isinstance") gIsi := ⟨_, call_isiZ, fun B S σ ts H xs ds R Q hl h hd k => by
  unfold gIsi at hd
  split at hd
  · rename_i x c
    split at hd
    · rename_i t e
      match xs, hl with
      | [y, z], _ =>
        obtain ⟨F, α, h⟩ := h
        have h1 := h.tm (y, x) (by simp)
        have h2 := h.tm (z, .raw (.ty c)) (by simp)
        obtain ⟨t1, t2⟩ := h.ty h1 e
        cases (show z = V.ty c from h2)
        exact ⟨y, c, t, _, rfl, t1, isi_ok _ t2 _ hd.1, k _ _ S H hd.2 ((h.sub memA).add vbl).ok⟩
    · exact hd.elim
  · exact hd.elim⟩
/-! ### len -/
def gLen : DC1 := fun ds S R => match ds with
  | [x] => match S.seq x with
    | some (_, es) => R (dI es.length) S
    | none => match x.str? with
      | some z => z.length ≤ sizeLine ∧ R (dI z.length) S
      | none => False
  | _ => False
theorem cd_len : CallD X (.builtin "len") gLen := ⟨_, .or call_len_seq call_len_str, fun B S σ ts H xs ds R Q hl h hd k => by
  match ds, hd with
  | [x], hd =>
    match xs, hl with
    | [y], _ =>
      obtain ⟨F, α, h⟩ := h
      have h1 := h.tm (y, x) (by simp)
      have hd' : match S.seq x with
        | some (_, es) => R (dI es.length) S
        | none => match x.str? with
          | some z => z.length ≤ sizeLine ∧ R (dI z.length) S
          | none => False := hd
      split at hd'
      · rename_i b es e
        obtain ⟨p, ys, rfl, hq, hp⟩ := h.seq h1 e
        refine .inl ⟨p, ys, rfl, ?_, ?_⟩
        · cases b with
          | true => exact .inl hq
          | false => exact .inr hq
        · rw [Paired.length hp]
          exact k _ _ S H hd' ((h.sub memA).add vint).ok
      · split at hd'
        · rename_i z e
          rw [str?_eq e] at h1
          have h1' := vok_str h1
          dsimp only at h1'
          exact .inr ⟨z, by rw [h1'], hd'.1, k _ _ S H hd'.2 ((h.sub memA).add vint).ok⟩
        · exact hd'.elim⟩
/-! ### all, any, sum, max, min -/
def allB : List DV → Option (List Bool)
  | [] => some []
  | .imm (.bool b) :: r => (allB r).map (b :: ·)
  | _ :: _ => none
def allI : List DV → Option (List Int)
  | [] => some []
  | .imm (.int b) :: r => (allI r).map (b :: ·)
  | _ :: _ => none
theorem allB_map (bs : List Bool) : allB (bs.map dB) = some bs := by
  induction bs with
  | nil => rfl
  | cons p r ih => show (allB (r.map dB)).map _ = _; rw [ih]; rfl
theorem allI_map (bs : List Int) : allI (bs.map dI) = some bs := by
  induction bs with
  | nil => rfl
  | cons p r ih => show (allI (r.map dI)).map _ = _; rw [ih]; rfl
section
variable {P : Program} {w : World} {K : PySem.W.Frag} {F : Hp} {α : List Addr}
theorem allB_ok : ∀ {ds : List DV} {xs : List V} {bs : List Bool}, Paired (VOk P w K F α) xs ds → allB ds = some bs → xs = bs.map V.bl
  | [], _, bs, p, e => by cases p; cases e; rfl
  | d :: r, _, bs, .cons h t, e => by
    cases d with
    | imm d =>
      cases d with
      | bool b =>
        have e' : (allB r).map (b :: ·) = some bs := e
        cases q : allB r with
        | none => rw [q] at e'; cases e'
        | some l => rw [q] at e'; cases e'; rw [vok_bl h, allB_ok t q]; rfl
      | _ => cases e
    | _ => cases e
theorem allI_ok : ∀ {ds : List DV} {xs : List V} {bs : List Int}, Paired (VOk P w K F α) xs ds → allI ds = some bs → xs = bs.map V.int
  | [], _, bs, p, e => by cases p; cases e; rfl
  | d :: r, _, bs, .cons h t, e => by
    cases d with
    | imm d =>
      cases d with
      | int b =>
        have e' : (allI r).map (b :: ·) = some bs := e
        cases q : allI r with
        | none => rw [q] at e'; cases e'
        | some l => rw [q] at e'; cases e'; rw [vok_int h, allI_ok t q]; rfl
      | _ => cases e
    | _ => cases e
end
def gBools (f : List Bool → Bool) : DC1 := fun ds S R => match ds with
  | [x] => match S.seq x with
    | some (true, es) => match allB es with
      | some bs => R (dB (f bs)) S
      | none => False
    | _ => False
  | _ => False
theorem snd_bools {P : Program} {w : World} {K : PySem.W.Frag} (f : List Bool → Bool) : SndC P w K (fun vs H Q => ∃ (a : Addr) (bs : List Bool), vs = [V.ref a] ∧ SqL K H a (bs.map V.bl) ∧ Q (.bl (f bs)) H) (gBools f) := fun B S σ ts H xs ds R Q hl h hd k => by
  match ds, hd with
  | [x], hd =>
    match xs, hl with
    | [y], _ =>
      obtain ⟨F, α, h⟩ := h
      have h1 := h.tm (y, x) (by simp)
      have hd' : match S.seq x with
        | some (true, es) => match allB es with
          | some bs => R (dB (f bs)) S
          | none => False
        | _ => False := hd
      split at hd'
      · rename_i es e
        obtain ⟨p, ys, rfl, hq, hp⟩ := h.seq h1 e
        split at hd'
        · rename_i bs e2
          have hq' : SqL K H p ys := hq
          rw [allB_ok hp e2] at hq'
          exact ⟨p, bs, rfl, hq', k _ _ S H hd' ((h.sub memA).add vbl).ok⟩
        · exact hd'.elim
      · exact hd'.elim
theorem cd_all (hc : X.calm = true) : CallD X (.builtin "all") (gBools fun bs => bs.all id) := ⟨_, cr_all hc, snd_bools _⟩
theorem cd_any (hc : X.calm = true) : CallD X (.builtin "any") (gBools fun bs => bs.any id) := ⟨_, cr_any hc, snd_bools _⟩
/-- two ints -/
def gII2 (f : Int → Int → Int) : DC1 := fun ds S R => match ds with
  | [x, y] => match x.int?, y.int? with
    | some i, some j => R (dI (f i j)) S
    | _, _ => False
  | _ => False
theorem snd_II2 {P : Program} {w : World} {K : PySem.W.Frag} (f : Int → Int → Int) : SndC P w K (fun vs H Q => ∃ i j, vs = [V.int i, V.int j] ∧ Q (.int (f i j)) H) (gII2 f) := fun B S σ ts H xs ds R Q hl h hd k => by
  match ds, hd with
  | [x, y], hd =>
    match xs, hl with
    | [u, v], _ =>
      obtain ⟨F, α, h⟩ := h
      have h1 := h.tm (u, x) (by simp)
      have h2 := h.tm (v, y) (by simp)
      have hd' : match x.int?, y.int? with
        | some i, some j => R (dI (f i j)) S
        | _, _ => False := hd
      split at hd'
      · rename_i i j e1 e2
        rw [int?_eq e1] at h1
        rw [int?_eq e2] at h2
        have h1' := vok_int h1
        have h2' := vok_int h2
        dsimp only at h1' h2'
        subst h1' h2'
        exact ⟨i, j, rfl, k _ _ S H hd' ((h.sub memA).add vint).ok⟩
      · exact hd'.elim
theorem cd_min2 (hc : X.calm = true) : CallD X (.builtin "min") (gII2 fun i j => if j < i then j else i) := ⟨_, call_min2 hc, snd_II2 _⟩
theorem cd_max2 (hc : X.calm = true) : CallD X (.builtin "max") (gII2 fun i j => if j > i then j else i) := ⟨_, call_max2 hc, snd_II2 _⟩
/-! ### set(t), t a tuple of ints; sorted(set(t)) -/
theorem call_setT (hc : X.calm = true) : CallR X (.type "set") (fun xs H Q => ∃ (p : Addr) (ns : List Int), xs = [.ref p] ∧ SqT X.K H p (ns.map V.int) ∧ ns.length + 1 < scanBound ∧ ∀ (b : Addr) (ks : List Int), H b = none → ks.Nodup → (∀ k, k ∈ ks ↔ k ∈ ns) → Q (.ref b) (upd H b (SetO X.w b (fun j => decide (j ∈ ns)) ks.length))) := by
  intro pins s σ H xs us Q I r h
  obtain ⟨p, ns, rfl, hq, hz, q⟩ := h
  obtain ⟨u, rfl, ru⟩ := vals1 r
  cases (show u = Value.ref p from ru)
  obtain ⟨its, rv, hp, _⟩ := I.tuple hq
  refine call_set_tupI ns (I.ok.hd hc) hp (by simpa using rv.ints) hz fun h' tk c hS hcl kp => ?_
  obtain ⟨o, es, ep, t, _, _, _, _, nd, mem, _, _, sz, _⟩ := id hS
  have hc' : c = (es.toList.map keyOf).length := by rw [List.length_map, Array.length_toList]; exact sz.symm
  rw [hc'] at hS
  exact ⟨.ref _, _, I.laid (t' := tk) kp (Nat.le_refl _) (setO_new hS), rfl, q _ (es.toList.map keyOf) (I.hok.fresh (Nat.le_refl _)) nd fun k => by rw [← mem k]; exact decide_eq_true_iff⟩
def gSetT (w : World) : DC1 := fun ds S R => match ds with
  | [x] => match S.seq x with
    | some (false, es) => match allI es with
      | some ns => ns.length + 1 < scanBound ∧ ∀ ks : List Int, ks.Nodup → (∀ k, k ∈ ks ↔ k ∈ ns) → R (.obj fun b => SetO w b (fun j => decide (j ∈ ns)) ks.length) S
      | none => False
    | _ => False
  | _ => False
theorem cd_setT (hc : X.calm = true) : CallD X (.type "set") (gSetT X.w) := ⟨_, call_setT hc, fun B S σ ts H xs ds R Q hl h hd k => by
  match ds, hd with
  | [x], hd =>
    match xs, hl with
    | [y], _ =>
      obtain ⟨F, α, h⟩ := h
      have h1 := h.tm (y, x) (by simp)
      have hd' : match S.seq x with
        | some (false, es) => match allI es with
          | some ns => ns.length + 1 < scanBound ∧ ∀ ks : List Int, ks.Nodup → (∀ k, k ∈ ks ↔ k ∈ ns) → R (.obj fun b => SetO X.w b (fun j => decide (j ∈ ns)) ks.length) S
          | none => False
        | _ => False := hd
      split at hd'
      · rename_i es e
        obtain ⟨p, ys, rfl, hq, hp⟩ := h.seq h1 e
        split at hd'
        · rename_i ns e2
          have hq' : SqT X.K H p ys := hq
          rw [allI_ok hp e2] at hq'
          exact ⟨p, ns, rfl, hq', hd'.1, fun b ks hb h1 h2 => k _ _ S _ (hd'.2 ks h1 h2) (((h.sub memA).lay hb).add (d := .obj _) ⟨b, rfl, upd_same⟩).ok⟩
        · exact hd'.elim
      · exact hd'.elim⟩
def gSortedSet (w : World) : DC1 := fun ds S R => match ds with
  | [.obj φ] => ∃ (f : Int → Bool) (c : Nat), (φ = fun b => SetO w b f c) ∧ c < 64 ∧ ∀ ns : List Int, ns.Pairwise (· < ·) → (∀ k, k ∈ ns ↔ f k = true) → ns.length = c → R (.imm (.list (ns.map .int))) S
  | _ => False
theorem rp_ints {P : Program} {w : World} {K : PySem.W.Frag} {F : Hp} : ∀ ns : List Int, RpAll P w K F (ns.map V.int) (ns.map .int)
  | [] => .nil
  | n :: r => .cons (.int n) (rp_ints r)
theorem cd_sortedSet (hc : X.calm = true) : CallD X (.builtin "sorted") (gSortedSet X.w) := ⟨_, cr_sortedSet hc, fun B S σ ts H xs ds R Q hl h hd k => by
  unfold gSortedSet at hd
  split at hd
  · rename_i φ
    match xs, hl with
    | [y], _ =>
      obtain ⟨F, α, h⟩ := h
      obtain ⟨b, rfl, h2⟩ := (show ∃ b, y = .ref b ∧ F b = some (φ b) from h.tm (y, .obj φ) (by simp))
      obtain ⟨f, c, rfl, h64, hd⟩ := hd
      exact ⟨b, f, c, rfl, h.fh _ _ h2, h64, fun ns p h1 h3 h4 hp => k _ _ S _ (hd ns h1 h3 h4) ((h.sub memA).newLst hp (rp_ints ns)).ok⟩
  · exact hd.elim⟩
end

/-! ## methods -/
abbrev DM := DV → List DV → DSt → (DV → DSt → Prop) → Prop
def SndM (P : Program) (w : World) (K : PySem.W.Frag) (r : V → List V → Hp → VK → Prop) (g : DM) : Prop := ∀ (B : Bs) (S : DSt) (σ : L2.St) (ts : List (V × DV)) (H : Hp) (x : V) (dx : DV) (xs : List V) (ds : List DV) (R : DV → DSt → Prop) (Q : VK), xs.length = ds.length →
  StOk P w K B S σ (xs.zip ds ++ (x, dx) :: ts) H → g dx ds S R → (∀ v d S' H', R d S' → StOk P w K B S' σ ((v, d) :: ts) H' → Q v H') → r x xs H Q
structure MthD (X : Cx) (id : String) (g : DM) : Prop where
  ex : ∃ r, MtR X id r ∧ SndM X.prog X.w X.K r g
def isM (S : DSt) (T : String) (d : DV) : Prop := (T = "list" ∧ ∃ ds, S.seq d = some (true, ds)) ∨ (T = "str" ∧ ∃ z, d.str? = some z)
def dBM (T : String) (g : DM) (do' : DTE) (da : DTA) : DTE := fun S R => do' S fun x S1 => isM S1 T x ∧ da S1 fun ds S2 => g x ds S2 R
def dBM0 (T : String) (g : DM) (do' : DTE) : DTE := fun S R => do' S fun x S1 => isM S1 T x ∧ g x [] S1 R
section
variable {P : Program} {w : World} {K : PySem.W.Frag} {B : Bs} {S S' : DSt} {σ : L2.St} {ts : List (V × DV)} {H F F' : Hp} {α : List Addr} {v : V} {d : DV} {T : String} {r : V → List V → Hp → VK → Prop} {g : DM} {to : TE} {do' : DTE} {ta : TA} {da : DTA}
theorem StAt.isM (h : StAt P w K B S σ ts H F α) (hv : VOk P w K F α v d) (e : isM S T d) : tyV K T v H := by
  rcases e with ⟨rfl, ds, e⟩ | ⟨rfl, z, e⟩
  · obtain ⟨p, ys, rfl, hq, _⟩ := h.seq hv e
    exact .inl ⟨rfl, ys, hq⟩
  · rw [str?_eq e] at hv
    rw [vok_str hv]
    rfl
theorem snd_bm (ho : SndE P w K to do') (ha : SndA P w K ta da) (hr : SndM P w K r g) : SndE P w K (tBM K T r to ta) (dBM T g do' da) := fun B S σ ts H R Q h hd k =>
  ho B S σ ts H _ _ h hd fun x dx S1 H1 q o => by
    obtain ⟨F, α, o⟩ := o
    exact ⟨o.isM o.top q.1, ha B S1 σ _ H1 _ _ o.ok q.2 fun vs ds S2 H2 hl q2 o2 => hr B S2 σ ts H2 x dx vs ds R Q hl o2 q2 k⟩
theorem snd_bm0 (ho : SndE P w K to do') (hr : SndM P w K r g) : SndE P w K (tBM0 K T r to) (dBM0 T g do') := fun B S σ ts H R Q h hd k =>
  ho B S σ ts H _ _ h hd fun x dx S1 H1 q o => by
    obtain ⟨F, α, o⟩ := o
    exact ⟨o.isM o.top q.1, hr B S1 σ ts H1 x dx [] [] R Q rfl o.ok q.2 k⟩
/-- a cell that is a list -/
theorem StAt.cellL {k : Nat} {ds : List DV} (h : StAt P w K B S σ ts H F α) (hv : VOk P w K F α v (.cell k)) (e : S.cell k = some (.lst ds)) : ∃ a xs, v = .ref a ∧ α[k]? = some a ∧ F a = none ∧ H a = some (.lst xs) ∧ Paired (VOk P w K F α) xs ds := by
  obtain ⟨a, h1, rfl⟩ := hv
  obtain ⟨a', g1, g2, xs, g3, g4⟩ := h.ce k _ (cell_get e)
  cases h1.symm.trans g1
  exact ⟨a, xs, rfl, h1, g2, g3, g4⟩
end
section
variable {X : Cx} {o e : Expr} {es : List Expr} {name : Str} {apos cpos : Pos} {T id : String} {g : DM} {do' : DTE} {da : DTA}
theorem de_bm (hm : MthD X id g) (ho : DE X o do') (ha : DA X (e :: es) da) (pa : PlainAttrs T) (slot : Slot T name id) (hty : typeOf (.builtin id) = pure (.type "method_descriptor"))
    (hbase : attributeBase o name X.env (eval o X.env) = eval o X.env := by rfl)
    (hfew : ((backTo cpos (starEach (e :: es) X.env)).all (fun x => !x.1) && (backToKw cpos (keywordEach [] X.env)).all (fun x => x.1.isSome)
      && decide ((e :: es).length + ([] : List Keyword).length + (if ([] : List Keyword).isEmpty then 0 else 1) < 30)) = true := by rfl)
    (hline : (apos.endLine == cpos.line) = true := by rfl) (hs : starEach (e :: es) X.env = (false, eval e X.env) :: starEach es X.env := by rfl) (hplain : (backTo cpos (starEach es X.env)).any (·.1) = false := by rfl) :
    DE X (.Call (.Attribute o name apos) (e :: es) [] cpos) (dBM T g do' da) := by
  obtain ⟨r, m1, m2⟩ := hm.ex
  obtain ⟨to, o1, o2⟩ := ho.ex
  obtain ⟨ta, a1, a2⟩ := ha.ex
  exact ⟨_, pe_bm pa slot hty m1 o1 a1 hbase hfew hline hs hplain, snd_bm o2 a2 m2⟩
theorem de_bm0 (hm : MthD X id g) (ho : DE X o do') (pa : PlainAttrs T) (slot : Slot T name id) (hty : typeOf (.builtin id) = pure (.type "method_descriptor"))
    (hbase : attributeBase o name X.env (eval o X.env) = eval o X.env := by rfl) (hline : (apos.endLine == cpos.line) = true := by rfl) :
    DE X (.Call (.Attribute o name apos) [] [] cpos) (dBM0 T g do') := by
  obtain ⟨r, m1, m2⟩ := hm.ex
  obtain ⟨to, o1, o2⟩ := ho.ex
  exact ⟨_, pe_bm0 pa slot hty m1 o1 hbase hline, snd_bm0 o2 m2⟩
def gAppend : DM := fun x ds S R => match x, ds with
  | .cell k, [d] => match S.cell k with
    | some (.lst es) => es.length < sizeLine ∧ R dN (S.put k (.lst (es ++ [d])))
    | _ => False
  | _, _ => False
theorem md_append : MthD X "list.append" gAppend := ⟨_, mt_append, fun B S σ ts H x dx xs ds R Q hl h hd k => by
  unfold gAppend at hd
  split at hd
  · rename_i kk d
    split at hd
    · rename_i es e
      match xs, hl with
      | [y], _ =>
        obtain ⟨F, α, h⟩ := h
        obtain ⟨a, zs, rfl, g1, g2, g3, g4⟩ := h.cellL (h.tm (x, .cell kk) (by simp)) e
        have hy := h.tm (y, d) (by simp)
        exact ⟨a, zs, y, rfl, rfl, g3, by rw [Paired.length g4]; exact hd.1, k _ _ _ _ hd.2 (((h.sub fun p hp => by simp [hp]).cellPut (u := .lst (es ++ [d])) g1 g2 ⟨_, upd_same, Paired.app' g4 (.cons hy .nil)⟩).add vnon).ok⟩
    · exact hd.elim
  · exact hd.elim⟩
def gExtend : DM := fun x ds S R => match x, ds with
  | .cell k, [d] => match S.cell k, S.lst d with
    | some (.lst es), some fs => es.length + fs.length ≤ sizeLine ∧ R dN (S.put k (.lst (es ++ fs)))
    | _, _ => False
  | _, _ => False
theorem md_extend : MthD X "list.extend" gExtend := ⟨_, mt_extend, fun B S σ ts H x dx xs ds R Q hl h hd k => by
  unfold gExtend at hd
  split at hd
  · rename_i kk d
    split at hd
    · rename_i es fs e e2
      match xs, hl with
      | [y], _ =>
        obtain ⟨F, α, h⟩ := h
        obtain ⟨a, zs, rfl, g1, g2, g3, g4⟩ := h.cellL (h.tm (x, .cell kk) (by simp)) e
        obtain ⟨b, ws, rfl, j1, j2⟩ := h.lst (h.tm (y, d) (by simp)) e2
        exact ⟨a, b, zs, ws, rfl, rfl, g3, j1, by rw [Paired.length g4, Paired.length j2]; exact hd.1, k _ _ _ _ hd.2 (((h.sub fun p hp => by simp [hp]).cellPut (u := .lst (es ++ fs)) g1 g2 ⟨_, upd_same, Paired.app' g4 j2⟩).add vnon).ok⟩
    · exact hd.elim
  · exact hd.elim⟩
end
end DL

set_option Elab.async false
set_option linter.all false
set_option maxRecDepth 100000
set_option autoImplicit false
set_option maxHeartbeats 2000000
namespace DL
open PySem PySem.Spec L2

/-! ## dicts -/
def leafOf : PyData → Option Leaf
  | .none => some .none
  | .int i => some (.num i)
  | .str x => some (.text x)
  | _ => none
def keyOf : DV → Option Leaf
  | .imm d => leafOf d
  | _ => none
def allLeaf : List (PyData × PyData) → Option (List (Leaf × DV))
  | [] => some []
  | (k, d) :: r => match leafOf k, allLeaf r with
    | some l, some s => some ((l, .imm d) :: s)
    | _, _ => none
def DSt.dict (S : DSt) : DV → Option (List (Leaf × DV))
  | .imm (.dict ps) => allLeaf ps
  | .cell k => match S.cell k with
    | some (.dic kvs) => some kvs
    | _ => none
  | _ => none
def valG {D : Type} (kvs : List (Leaf × D)) (k : Leaf) : Option D := (kvs.find? fun p => decide (p.1 = k)).map (·.2)
def putG {D : Type} (kvs : List (Leaf × D)) (k : Leaf) (d : D) : List (Leaf × D) :=
  if (kvs.any fun p => decide (p.1 = k)) = true then kvs.map (fun p => if p.1 = k then (p.1, d) else p) else kvs ++ [(k, d)]
theorem leafOf_kvD (k : Leaf) : leafOf (kvD k) = some k := by cases k <;> rfl
section
variable {P : Program} {w : World} {K : PySem.W.Frag} {B : Bs} {S S' : DSt} {σ : L2.St} {ts : List (V × DV)} {H F F' : Hp} {α : List Addr} {v : V} {d : DV}
def KVOk (P : Program) (w : World) (K : PySem.W.Frag) (F : Hp) (α : List Addr) : Leaf × V → Leaf × DV → Prop := fun p q => p.1 = q.1 ∧ VOk P w K F α p.2 q.2
theorem leafs_ok : ∀ {kvs : List (Leaf × V)} {ps : List (PyData × PyData)} {es : List (Leaf × DV)}, ps.map (·.1) = kvs.map (fun p => kvD p.1) → RpAll P w K F (kvs.map (·.2)) (ps.map (·.2)) → allLeaf ps = some es → Paired (KVOk P w K F α) kvs es
  | [], [], es, _, _, h => by cases h; exact .nil
  | [], _ :: _, _, h, _, _ => by simp at h
  | _ :: _, [], _, h, _, _ => by simp at h
  | (k, v) :: kvs, (p, q) :: ps, es, h, r, e => by
    simp only [List.map_cons, List.cons.injEq] at h
    obtain ⟨h1, h2⟩ := h
    subst h1
    have e' : (match leafOf (kvD k), allLeaf ps with | some l, some s => some ((l, DV.imm q) :: s) | _, _ => none) = some es := e
    rw [leafOf_kvD] at e'
    cases z : allLeaf ps with
    | none => rw [z] at e'; cases e'
    | some s =>
      rw [z] at e'
      cases e'
      cases r with
      | cons r1 r2 => exact .cons ⟨rfl, r1⟩ (leafs_ok h2 r2 z)
theorem StAt.dict (h : StAt P w K B S σ ts H F α) (hv : VOk P w K F α v d) {es : List (Leaf × DV)} (e : S.dict d = some es) : ∃ a kvs, v = .ref a ∧ H a = some (DicO P w a kvs) ∧ Paired (KVOk P w K F α) kvs es := by
  cases d with
  | imm d =>
    cases d with
    | dict ps =>
      cases hv with
      | dic h1 h2 h3 => exact ⟨_, _, rfl, h.fh _ _ h1, leafs_ok h2 h3 e⟩
    | _ => cases e
  | cell k =>
    obtain ⟨a, h1, rfl⟩ := hv
    have e' : (match S.cell k with | some (.dic kvs) => some kvs | _ => none) = some es := e
    cases q : S.cell k with
    | none => rw [q] at e'; cases e'
    | some o =>
      rw [q] at e'
      cases o with
      | dic ks =>
        cases e'
        obtain ⟨a', g1, _, xs, g2, g3⟩ := h.ce k _ (cell_get q)
        cases h1.symm.trans g1
        exact ⟨a, xs, rfl, g2, g3⟩
      | lst _ => cases e'
      | ins _ _ => cases e'
      | ho _ => cases e'
      | lck _ _ => cases e'
  | raw _ => cases e
  | obj _ => cases e
  | scr _ => cases e
theorem key_ok (hv : VOk P w K F α v d) {k : Leaf} (e : keyOf d = some k) : v = kvV k := by
  cases d with
  | imm d => cases hv <;> first | (cases e; rfl) | (exact absurd e (by simp [keyOf, leafOf]))
  | _ => cases e
theorem valG_ok {kvs : List (Leaf × V)} {es : List (Leaf × DV)} (h : Paired (KVOk P w K F α) kvs es) {k : Leaf} {d : DV} (e : valG es k = some d) : ∃ v, valV kvs k = some v ∧ VOk P w K F α v d := by
  induction h with
  | nil => cases e
  | @cons p q ps qs h t ih =>
    obtain ⟨h1, h2⟩ := h
    by_cases c : q.1 = k
    · have c' : p.1 = k := h1.trans c
      refine ⟨p.2, valV_pos c', ?_⟩
      have : valG (q :: qs) k = some q.2 := by simp [valG, List.find?_cons, c]
      rw [this] at e; cases e; exact h2
    · have c' : ¬ p.1 = k := fun z => c (h1.symm.trans z)
      have : valG (q :: qs) k = valG qs k := by simp [valG, List.find?_cons, c]
      rw [this] at e
      obtain ⟨v, v1, v2⟩ := ih e
      exact ⟨v, by rw [valV_neg c']; exact v1, v2⟩
theorem valG_some {kvs : List (Leaf × V)} {es : List (Leaf × DV)} (h : Paired (KVOk P w K F α) kvs es) (k : Leaf) : (valV kvs k).isSome = (valG es k).isSome := by
  induction h with
  | nil => rfl
  | @cons p q ps qs h t ih =>
    obtain ⟨h1, h2⟩ := h
    by_cases c : q.1 = k
    · have c' : p.1 = k := h1.trans c
      rw [valV_pos c']
      simp [valG, List.find?_cons, c]
    · have c' : ¬ p.1 = k := fun z => c (h1.symm.trans z)
      rw [valV_neg c', ih]
      simp [valG, List.find?_cons, c]
theorem putG_ok {kvs : List (Leaf × V)} {es : List (Leaf × DV)} (h : Paired (KVOk P w K F α) kvs es) (k : Leaf) (hv : VOk P w K F α v d) : Paired (KVOk P w K F α) (putK kvs k v) (putG es k d) := by
  have ha : ∀ {kvs : List (Leaf × V)} {es : List (Leaf × DV)}, Paired (KVOk P w K F α) kvs es → (kvs.any fun p => decide (p.1 = k)) = (es.any fun p => decide (p.1 = k)) := by
    intro kvs es h
    induction h with
    | nil => rfl
    | cons h t ih => rw [List.any_cons, List.any_cons, ih, h.1]
  unfold putK putG
  rw [ha h]
  by_cases c : (es.any fun p => decide (p.1 = k)) = true
  · rw [if_pos c, if_pos c]
    clear c
    induction h with
    | nil => exact .nil
    | @cons p q ps qs h t ih =>
      rw [List.map_cons, List.map_cons]
      refine .cons ?_ ih
      obtain ⟨h1, h2⟩ := h
      by_cases c : q.1 = k
      · rw [if_pos c, if_pos (h1.trans c)]; exact ⟨h1, hv⟩
      · rw [if_neg c, if_neg (fun z => c (h1.symm.trans z))]; exact ⟨h1, h2⟩
  · rw [if_neg c, if_neg c]
    exact Paired.app' h (.cons ⟨rfl, hv⟩ .nil)
end
/-! ### the steps -/
section
variable {X : Cx} {pins : List (Addr × Obj)} {σ : L2.St} {H : Hp} {s : Shared} {a : Addr} {kvs : List (Leaf × V)}
theorem dz_of (I : Inv X pins σ H s) (e : H a = some (DicO X.prog X.w a kvs)) : kvs.length ≤ sizeLine ∧ (a == sysModules) = false ∧ ∃ vs, KV kvs vs ∧ s.heap.DictOf (cK X.prog X.w) a vs :=
  (show ObjOk X.prog X.w H s.heap a (DicO X.prog X.w a kvs) from I.hok a _ e).1
theorem dz_ok {H' : Hp} {h : Heap} {vs : List (Leaf × Value)} (z : kvs.length ≤ sizeLine) (hd : (a == sysModules) = false) (r : KV kvs vs) (dd : h.DictOf (cK X.prog X.w) a vs) : ObjOk X.prog X.w H' h a (DicO X.prog X.w a kvs) := by
  refine ⟨⟨z, hd, vs, r, dd⟩, ?_, fun h1 h2 ⟨q1, q2, vs', q3, q4⟩ k => ⟨q1, q2, vs', q3, ?_⟩⟩
  · obtain ⟨o, _, _, ho, _⟩ := dd
    exact ⟨o, ho⟩
  · obtain ⟨o, es, ep, ho, r⟩ := q4
    exact ⟨o, es, ep, k o ho, r⟩
def rAtZ (P : Program) (w : World) : R2 := fun x y H Q => ∃ a kvs k v, x = .ref a ∧ H a = some (DicO P w a kvs) ∧ y = kvV k ∧ valV kvs k = some v ∧ Q v H
theorem ix_dicZ : IxR X (rAtZ X.prog X.w) := by
  intro value slice pins s σ H x y v u Q I rx ry h hs
  obtain ⟨a, kvs, k, z, rfl, hH, rfl, hv, q⟩ := h
  cases (show v = Value.ref a from rx)
  obtain ⟨_, hd, vs, rel, dd⟩ := dz_of I hH
  obtain ⟨u', hu, ru⟩ := RelO.some_of (v := z) (o := valueAt vs k) (by rw [← hv]; exact rel.val k)
  exact PyProof.Rows.tail_any dd.typeIs PySem.F.slot_dict_getitem.lookup (wpAny_getItem_of (ck_of ry) dd.mapOf hu ⟨z, H, I.tok _, ru, q⟩) hs
def rInZ (P : Program) (w : World) (neg : Bool) : R2 := fun x y H Q => ∃ a kvs k, y = .ref a ∧ H a = some (DicO P w a kvs) ∧ x = kvV k ∧ Q (.bl (if neg = true then !(valV kvs k).isSome else (valV kvs k).isSome)) H
theorem op_inZ : OpR X (compareOp .In) (rInZ X.prog X.w false) := by
  intro pins s σ H x y v u Q I rx ry h
  obtain ⟨a, kvs, k, rfl, hH, rfl, q⟩ := h
  cases (show u = Value.ref a from ry)
  obtain ⟨_, hd, vs, rel, dd⟩ := dz_of I hH
  have e := (rel.val k).isSome_eq
  exact wpAny_in_of (ck_of rx) hd dd.mapOf ⟨_, H, I.tok _, by rw [← e]; rfl, q⟩
theorem op_ninZ : OpR X (compareOp .NotIn) (rInZ X.prog X.w true) := by
  intro pins s σ H x y v u Q I rx ry h
  obtain ⟨a, kvs, k, rfl, hH, rfl, q⟩ := h
  cases (show u = Value.ref a from ry)
  obtain ⟨_, hd, vs, rel, dd⟩ := dz_of I hH
  have e := (rel.val k).isSome_eq
  exact wpAny_notIn_of (ck_of rx) hd dd.mapOf ⟨_, H, I.tok _, by rw [← e]; rfl, q⟩
theorem dz_put {vs : List (Leaf × Value)} {k : Leaf} {y : V} {u : Value} {h' : Heap} {t' : Nat} (I : Inv X pins σ H s) (e : H a = some (DicO X.prog X.w a kvs)) (hz : kvs.length < sizeLine) (hd : (a == sysModules) = false) (rel : KV kvs vs) (ry : RelV y u)
    (dd : h'.DictOf (cK X.prog X.w) a (stored vs k u)) (hs : Heap.SameBut a s.heap h') : Inv X pins σ (upd H a (DicO X.prog X.w a (putK kvs k y))) { s with heap := h', toks := t' } := by
  have he : ∃ q, h'.get? a = some q := let ⟨q, _, _, hq, _⟩ := dd; ⟨q, hq⟩
  have hl : (putK kvs k y).length ≤ sizeLine := by have := length_putK kvs k y; omega
  exact d_write I (by rw [e]; exact True.intro) hs he (dz_ok hl hd (rel.put k ry) dd)
def rSetZ (P : Program) (w : World) : V → V → V → Hp → (Hp → Prop) → Prop := fun o i v H Q => ∃ a kvs k, o = .ref a ∧ i = kvV k ∧ H a = some (DicO P w a kvs) ∧ kvs.length < sizeLine ∧ Q (upd H a (DicO P w a (putK kvs k v)))
theorem set_dicZ : PSet X (rSetZ X.prog X.w) := by
  intro pins s σ H o i v ov iv u Q I ro ri rv h
  obtain ⟨a, kvs, k, rfl, rfl, hH, hz, q⟩ := h
  cases (show ov = Value.ref a from ro)
  obtain ⟨z, hd, vs, rel, dd⟩ := dz_of I hH
  exact wpAny_setItem_pairs (hsz := by rw [← rel.length]; exact z) (ck_of ri) dd fun h' dd' hs => ⟨_, dz_put I hH hz hd rel rv dd' hs, q⟩
/-- d[k] = v within a comprehension -/
theorem dz_dictSet {E : Value → Shared → Prop} {k : Leaf} {v : V} {u r : Value} {Q : Unit → Shared → Prop} (I : Inv X pins σ H s) (e : H a = some (DicO X.prog X.w a kvs)) (hz : kvs.length < sizeLine) (ry : RelV (kvV k) u) (rv : RelV v r)
    (h : ∀ s', Inv X pins σ (upd H a (DicO X.prog X.w a (putK kvs k v))) s' → Q () s') : wpAny (model X.prog X.w) X.A (dictSet a u r) Q E s := by
  obtain ⟨z, hd, vs, rel, dd⟩ := dz_of I e
  exact wpAny_dictSet_pairs (hsz := by rw [← rel.length]; exact z) (ck_of ry) dd fun h' dd' hs => h _ (dz_put I e hz hd rel rv dd' hs)
end
theorem dz_empty {X : Cx} {H : Hp} (h : Heap) (hb : sysModules < h.objs.size) : ObjOk X.prog X.w H (h.push { cls := .type "dict", data := .dict #[] }) h.objs.size (DicO X.prog X.w h.objs.size []) := by
  have hne : (h.objs.size == sysModules) = false := beq_eq_false_iff_ne.mpr (Nat.ne_of_gt hb)
  exact dz_ok (Nat.zero_le _) hne .nil (Heap.DictOf.new (knd := cK X.prog X.w) h)
end DL

set_option Elab.async false
set_option linter.all false
set_option maxRecDepth 100000
set_option autoImplicit false
set_option maxHeartbeats 2000000
namespace DL
open PySem PySem.Spec L2

/-! ## x[i] of a list, a tuple, a text, a dict -/
def gAt : D2 := fun x y S R => match S.dict x, keyOf y with
  | some kvs, some k => match valG kvs k with
    | some d => R d S
    | none => False
  | _, _ => gIx x y S R
section
variable {X : Cx} {o i e a b : Expr} {da db do' di de : DTE} {pos p : Pos}
theorem snd_at {P : Program} {w : World} {K : PySem.W.Frag} : SndR P w K (fun x y H Q => rAtZ P w x y H Q ∨ rIx K x y H Q) gAt := fun B S σ ts H x y dx dy R Q h hd k => by
  unfold gAt at hd
  split at hd
  · rename_i kvs kk e1 e2
    cases e3 : valG kvs kk with
    | none => rw [e3] at hd; exact hd.elim
    | some d =>
      rw [e3] at hd
      obtain ⟨F, α, h⟩ := h
      obtain ⟨a, ks, rfl, hH, hp⟩ := h.dict h.top2 e1
      obtain ⟨v, hv, hvd⟩ := valG_ok hp e3
      exact .inl ⟨a, ks, kk, v, rfl, hH, key_ok h.top e2, hv, k v d S H hd ((h.sub mem2).add hvd).ok⟩
  · exact .inr (snd_ix B S σ ts H x y dx dy R Q h hd k)
theorem de_at (ha : DE X a da) (hb : DE X b db) (hs : PlainIx b := by exact fun _ _ => rfl) : DE X (.Subscript a b pos) (dOp gAt da db) := by
  obtain ⟨ta, a1, a2⟩ := ha.ex
  obtain ⟨tb, b1, b2⟩ := hb.ex
  exact ⟨_, pe_ix (.or ix_dicZ ix_seq) a1 b1 hs, snd_op a2 b2 snd_at⟩
/-! ### k in d, x in xs -/
def gInA (neg : Bool) : D2 := fun x y S R => match S.dict y, keyOf x with
  | some kvs, some k => R (dB (if neg = true then !(valG kvs k).isSome else (valG kvs k).isSome)) S
  | _, _ => gIn neg x y S R
theorem snd_inA {P : Program} {w : World} {K : PySem.W.Frag} (neg : Bool) : SndR P w K (fun x y H Q => rInZ P w neg x y H Q ∨ (rIn K neg x y H Q ∨ (if neg = true then rNotInD K x y H Q else rInD K x y H Q))) (gInA neg) := fun B S σ ts H x y dx dy R Q h hd k => by
  unfold gInA at hd
  split at hd
  · rename_i kvs kk e1 e2
    obtain ⟨F, α, h⟩ := h
    obtain ⟨a, ks, rfl, hH, hp⟩ := h.dict h.top e1
    refine .inl ⟨a, ks, kk, rfl, hH, key_ok h.top2 e2, ?_⟩
    rw [valG_some hp kk]
    exact k _ _ S H hd ((h.sub mem2).add vbl).ok
  · exact .inr (snd_in neg B S σ ts H x y dx dy R Q h hd k)
theorem od_inA (hu : X.A.units + 65 < cLine) : OpD X (compareOp .In) (gInA false) := ⟨_, .or op_inZ (.or op_in_seq (op_inD hu)), snd_inA false⟩
theorem od_notinA (hu : X.A.units + 65 < cLine) : OpD X (compareOp .NotIn) (gInA true) := ⟨_, .or op_ninZ (.or op_notIn_seq (op_notInD hu)), snd_inA true⟩
/-! ### x[i] = v: a list, a dict -/
def gPut (k : Nat) (i v : DV) (S : DSt) (R : DSt → Prop) : Prop := match S.cell k with
  | some (.lst ds) => match i.int? with
    | some j => match ixN ds.length j with
      | some n => R (S.put k (.lst (ds.set n v)))
      | none => False
    | none => False
  | some (.dic kvs) => match keyOf i with
    | some kk => kvs.length < sizeLine ∧ R (S.put k (.dic (putG kvs kk v)))
    | none => False
  | _ => False
def dPut (dv' dobj dix : DTE) : DTS := fun D S => dv' S fun v S1 => dobj S1 fun o S2 => dix S2 fun i S3 => match o with
  | .cell k => gPut k i v S3 D.nx
  | _ => False
theorem PSet.or' {t t' : TSet} (h : PSet X t) (h' : PSet X t') : PSet X (fun o i v H Q => t o i v H Q ∨ t' o i v H Q) := fun pins s σ H o i v ov iv u Q I ro ri rv q => by
  rcases q with q | q
  · exact h pins s σ H o i v ov iv u Q I ro ri rv q
  · exact h' pins s σ H o i v ov iv u Q I ro ri rv q
theorem snd_gput {P : Program} {w : World} {K : PySem.W.Frag} {B : Bs} {S3 : DSt} {σ : L2.St} {ts : List (V × DV)} {H3 : Hp} {k : Nat} {x y v : V} {dy d : DV} {R : DSt → Prop} {Q : Hp → Prop} {F : Hp} {α : List Addr}
    (z' : StAt P w K B S3 σ ((y, dy) :: (x, .cell k) :: (v, d) :: ts) H3 F α) (z : gPut k dy d S3 R) (q : ∀ S' H', R S' → StOk P w K B S' σ ts H' → Q H') : rSetL x y v H3 Q ∨ rSetZ P w x y v H3 Q := by
  unfold gPut at z
  have hv : VOk P w K F α v d := z'.tm (v, d) (by simp)
  have sb : ∀ p ∈ ts, p ∈ (y, dy) :: (x, DV.cell k) :: (v, d) :: ts := fun p hp => by simp [hp]
  obtain ⟨a', c1, rfl⟩ := z'.top2
  split at z
  · rename_i ds e2
    split at z
    · rename_i j e1
      split at z
      · rename_i n e3
        rw [int?_eq e1] at z'
        obtain ⟨a, g1, g2, xs, g3, g4⟩ := z'.ce k _ (cell_get e2)
        cases c1.symm.trans g1
        exact .inl ⟨_, xs, j, n, rfl, vok_int z'.top, g3, by rw [Paired.length g4]; exact e3, q _ _ z ((z'.cellPut (u := .lst (ds.set n d)) g1 g2 ⟨_, upd_same, Paired.set' hv n g4⟩).sub fun p hp => by simp [hp]).ok⟩
      · exact z.elim
    · exact z.elim
  · rename_i kvs e2
    split at z
    · rename_i kk e1
      obtain ⟨a, g1, g2, xs, g3, g4⟩ := z'.ce k _ (cell_get e2)
      cases c1.symm.trans g1
      have g4' : Paired (KVOk P w K F α) xs kvs := g4
      exact .inr ⟨_, xs, kk, rfl, key_ok z'.top e1, g3, by rw [Paired.length g4]; exact z.1, q _ _ z.2 ((z'.cellPut (u := .dic (putG kvs kk d)) g1 g2 ⟨_, upd_same, putG_ok g4' kk hv⟩).sub sb).ok⟩
    · exact z.elim
  · exact z.elim
theorem ds_put (he : DE X e de) (ho : DE X o do') (hi : DE X i di)
    (hs : swapsWithSole [.Subscript o i p] e pos.line X.env = pure false := by rfl) (hw : swappedStores [.Subscript o i p] e X.env = pure none := by rfl) (h1 : (assignEach [.Subscript o i p] X.env).map (·.2) = [assign (.Subscript o i p) X.env] := by rfl)
    (hg : ∀ v, assign (.Subscript o i p) X.env v = (do let ov ← holding [v] (eval o X.env); let iv ← holding [v, ov] (eval i X.env); standAt p; holding [v, ov, iv] (setItem ov iv v); release [v, ov, iv] []) := by intro _; rfl) :
    DS X (.Assign [.Subscript o i p] e pos) (dPut de do' di) := by
  obtain ⟨t, a1, a2⟩ := he.ex
  obtain ⟨to, o1, o2⟩ := ho.ex
  obtain ⟨ti, i1, i2⟩ := hi.ex
  refine ⟨_, ps_asg a1 (pg_sub o1 i1 (PSet.or' set_list set_dicZ) hg) hs hw h1, fun B S σ ts H D G h hd l => a2 B S σ ts H _ _ h hd fun v d S1 H1 q q' => o2 B S1 σ _ H1 _ _ q' q fun x dx S2 H2 r r' => i2 B S2 σ _ H2 _ _ r' r fun y dy S3 H3 z z' => ?_⟩
  cases dx with
  | cell k =>
    obtain ⟨F, α, z'⟩ := z'
    exact snd_gput z' z fun S' H' q o => l.nx _ _ _ q o
  | imm _ => exact z.elim
  | raw _ => exact z.elim
  | obj _ => exact z.elim
  | scr _ => exact z.elim
/-! ### len -/
def gLenA : DC1 := fun ds S R => match ds with
  | [x] => match S.dict x with
    | some kvs => R (dI kvs.length) S
    | none => gLen [x] S R
  | _ => False
theorem call_lenZ : CallR X (.builtin "len") (fun xs H Q => ∃ a kvs, xs = [.ref a] ∧ H a = some (DicO X.prog X.w a kvs) ∧ Q (.int kvs.length) H) := by
  intro pins s σ H xs us Q I r h
  obtain ⟨a, kvs, rfl, hH, q⟩ := h
  obtain ⟨u, rfl, ru⟩ := vals1 r
  cases (show u = Value.ref a from ru)
  obtain ⟨z, hd, vs, rel, dd⟩ := dz_of I hH
  have hl := rel.length
  have hn := line63
  exact call_len_dict hd dd (by rw [← hl]; rw [sizeLine_eq] at z; omega) ⟨.int kvs.length, H, I.tok _, ⟨_, by rw [hl]⟩, q⟩
theorem cd_lenA : CallD X (.builtin "len") gLenA := by
  obtain ⟨r, l1, l2⟩ := (cd_len (X := X)).ex
  refine ⟨_, .or call_lenZ l1, fun B S σ ts H xs ds R Q hl h hd k => ?_⟩
  match ds, hd with
  | [x], hd =>
    have hd' : match S.dict x with
      | some kvs => R (dI kvs.length) S
      | none => gLen [x] S R := hd
    split at hd'
    · rename_i kvs e
      match xs, hl with
      | [y], _ =>
        obtain ⟨F, α, h⟩ := h
        obtain ⟨a, ks, e2, hH, hp⟩ := h.dict (h.tm (y, x) (by simp)) e
        dsimp only at e2
        subst e2
        exact .inl ⟨a, ks, rfl, hH, by rw [Paired.length hp]; exact k _ _ S H hd' ((h.sub memA).add vint).ok⟩
    · exact .inr (l2 B S σ ts H xs [x] R Q hl h hd' k)
end
end DL

set_option Elab.async false
set_option linter.all false
set_option maxRecDepth 100000
set_option autoImplicit false
set_option maxHeartbeats 2000000
namespace DL
open PySem PySem.Spec L2

/-! ## a dict of int and text keys, seen as a dict of leaves -/
def lfK : Key → Leaf
  | .inl i => .num i
  | .inr x => .text x
def lfs {D : Type} (kvs : List (Key × D)) : List (Leaf × D) := kvs.map fun p => (lfK p.1, p.2)
theorem lfK_inj : ∀ {a b : Key}, lfK a = lfK b → a = b
  | .inl _, .inl _, h => by cases h; rfl
  | .inl _, .inr _, h => by cases h
  | .inr _, .inl _, h => by cases h
  | .inr _, .inr _, h => by cases h; rfl
section
variable {P : Program} {w : World}
theorem lf_is {k : Key} {u : Value} (h : (mixKind P w).is k u = true) : (cK P w).is (lfK k) u = true := by
  rcases keyIs_shape (show keyIs k u = true from h) with ⟨i, t, rfl, rfl⟩ | ⟨x, t, rfl, rfl⟩
  · exact decide_eq_true rfl
  · simp [cK, lfK, ckIs, Value.isStrOf]
theorem lf_hash (k : Key) : (mixKind P w).hash k = (cK P w).hash (lfK k) := by cases k <;> rfl
theorem lf_pairs : ∀ {es : List DictEntry} {vs : List (Key × Value)}, Pairs (mixKind P w) es vs → Pairs (cK P w) es (lfs vs)
  | _, _, .nil => .nil
  | _, _, .cons h1 h2 h3 => .cons (lf_is h1) h2 (lf_pairs h3)
theorem lf_nodup : ∀ {vs : List (Key × Value)}, (vs.map (·.1)).Nodup → ((lfs vs).map (·.1)).Nodup := fun {vs} h => by
  have e : (lfs vs).map (·.1) = (vs.map (·.1)).map lfK := by simp [lfs]
  rw [e]
  generalize vs.map (·.1) = ks at h
  induction h with
  | nil => exact List.nodup_nil
  | @cons k ks hk hn ih =>
    rw [List.map_cons, List.nodup_cons]
    refine ⟨fun m => ?_, ih⟩
    obtain ⟨k', k1, k2⟩ := List.mem_map.mp m
    exact hk k' k1 (lfK_inj k2.symm)
theorem lf_dict {h : Heap} {a : Addr} {vs : List (Key × Value)} (d : h.DictOf (mixKind P w) a vs) : h.DictOf (cK P w) a (lfs vs) := by
  obtain ⟨o, es, ep, ho, hx, hd, hk, hp, hn⟩ := d
  refine ⟨o, es, ep, ho, hx, hd, fun e he => ?_, lf_pairs hp, lf_nodup hn⟩
  obtain ⟨k, k1, k2⟩ := hk e he
  exact ⟨lfK k, lf_is k1, by rw [k2, lf_hash]⟩
theorem lf_kv : ∀ {kvs : List (Key × V)} {vs : List (Key × Value)}, KV kvs vs → KV (lfs kvs) (lfs vs)
  | _, _, .nil => .nil
  | _, _, .cons h t => .cons ⟨congrArg lfK h.1, h.2⟩ (lf_kv t)
end
def tView (P : Program) (w : World) (te : TE) : TE := fun σ H Q => te σ H fun v H1 => ∃ D kvs, v = .ref D ∧ H1 D = some (.dK kvs) ∧ Q v (upd H1 D (DicO P w D (lfs kvs)))
theorem pe_view {X : Cx} {e : Expr} {te : TE} (h : PE X e te) : PE X e (tView X.prog X.w te) := ⟨fun pins s σ H Q I q => by
  refine thn (h.run pins s σ H _ I q) fun u s1 ⟨v, H1, I1, r1, D, kvs, e1, hD, q1⟩ => ?_
  subst e1
  obtain ⟨z, hd, vs, rel, dd⟩ := dk_of I1.hok hD
  have dd' := lf_dict dd
  have he : ∃ o, s1.heap.get? D = some o := let ⟨o, _, _, ho, _⟩ := dd'; ⟨o, ho⟩
  have I2 : Inv X pins σ (upd H1 D (DicO X.prog X.w D (lfs kvs))) { s1 with heap := s1.heap, toks := s1.toks } :=
    I1.write (x := D) (e := D) (by rw [hD]; exact True.intro) (.inl rfl) (fun _ _ _ q => q) he (dz_ok (by simpa [lfs] using z) hd (lf_kv rel) dd')
  exact ⟨_, _, I2, r1, q1⟩⟩

/-! ## {k: v for x in xs} -/
def intKey : DV → Option Key
  | .imm (.int i) => some (.inl i)
  | .imm (.str x) => some (.inr x)
  | _ => none
def dDcP (di : DTI) (dg : DTG) (dt : DTT) (dk dv : DTE) (vs : List Nat) (S : DSt) (R : List (Leaf × DV) → DSt → Prop) : Prop := di S fun ys St S1 => ∃ I : Nat → List (Leaf × DV) → List (Option DO) → Prop, I 0 [] S1.μ ∧ (∀ i acc μ, i ≤ ys.length → I i acc μ → St ⟨wipeD S1.ρ vs, μ⟩) ∧
  (∀ i y acc μ, ys[i]? = some y → I i acc μ → dg y ⟨wipeD S1.ρ vs, μ⟩ fun S3 => dt S3 fun b S4 => if b = true then dk S4 fun kd S5 => dv S5 fun d S6 => match intKey kd with
    | some k => I (i + 1) (putG acc (lfK k) d) S6.μ
    | none => False else I (i + 1) acc S4.μ) ∧ ys.length < sizeLine ∧ ∀ acc μ, I ys.length acc μ → R acc ⟨S1.ρ, μ⟩
/-- the new dict becomes a cell -/
def dDcC (di : DTI) (dg : DTG) (dt : DTT) (dk dv : DTE) (vs : List Nat) : DTE := fun S R => dDcP di dg dt dk dv vs S fun acc S1 => R (.cell S1.μ.length) (S1.new (.dic acc))
section
variable {P : Program} {w : World} {K : PySem.W.Frag} {B : Bs} {S S' : DSt} {σ : L2.St} {ts : List (V × DV)} {H F F' : Hp} {α : List Addr} {v : V} {d : DV} {wi : TI} {di : DTI} {g : TG} {dg : DTG} {js : List Nat}
theorem intKey_ok (hv : VOk P w K F α v d) {k : Key} (e : intKey d = some k) : v = kV k := by
  cases d with
  | imm d => cases hv <;> first | (cases e; rfl) | (exact absurd e (by simp [intKey]))
  | _ => cases e
/-- what is known of a dict that is being made -/
def DcK (kvs : List (Key × V)) (es : List (Leaf × DV)) : List (V × DV) := (kvs.map (·.2)).zip (es.map (·.2))
theorem dcK_paired : ∀ {kvs : List (Key × V)} {es : List (Leaf × DV)}, kvs.map (fun p => lfK p.1) = es.map (·.1) → (∀ p ∈ DcK kvs es, VOk P w K F α p.1 p.2) → Paired (KVOk P w K F α) (lfs kvs) es
  | [], [], _, _ => .nil
  | [], _ :: _, h, _ => by simp at h
  | _ :: _, [], h, _ => by simp at h
  | p :: kvs, q :: es, h, hp => by
    simp only [List.map_cons, List.cons.injEq] at h
    exact .cons ⟨h.1, hp (p.2, q.2) (by simp [DcK])⟩ (dcK_paired h.2 fun z hz => hp z (by simp only [DcK, List.map_cons, List.zip_cons_cons, List.mem_cons]; exact .inr hz))
theorem lfs_put (kvs : List (Key × V)) (k : Key) (v : V) : lfs (putK kvs k v) = putK (lfs kvs) (lfK k) v := by
  have ha : (kvs.any fun p => decide (p.1 = k)) = ((lfs kvs).any fun p => decide (p.1 = lfK k)) := by
    unfold lfs
    rw [List.any_map]
    congr 1
    funext p
    by_cases c : p.1 = k
    · simp [c]
    · have : ¬ lfK p.1 = lfK k := fun z => c (lfK_inj z)
      simp [c, this]
  unfold putK
  rw [ha]
  split
  · unfold lfs
    rw [List.map_map, List.map_map]
    apply List.map_congr_left
    intro p _
    by_cases c : p.1 = k
    · simp [c]
    · have : ¬ lfK p.1 = lfK k := fun z => c (lfK_inj z)
      simp [c, this]
  · simp [lfs]
theorem mem_dcK : ∀ {kvs : List (Key × V)} {es : List (Leaf × DV)}, kvs.map (fun p => lfK p.1) = es.map (·.1) → Paired (KVOk P w K F α) (lfs kvs) es → ∀ p ∈ DcK kvs es, VOk P w K F α p.1 p.2
  | [], _, _, _, p, hp => by simp [DcK] at hp
  | _ :: _, [], _, _, p, hp => by simp [DcK] at hp
  | a :: kvs, b :: es, h, .cons h1 t, p, hp => by
    simp only [List.map_cons, List.cons.injEq] at h
    simp only [DcK, List.map_cons, List.zip_cons_cons, List.mem_cons] at hp
    rcases hp with e | hp
    · subst e; exact h1.2
    · exact mem_dcK h.2 t p hp
theorem lfs_keys (kvs : List (Key × V)) : (lfs kvs).map (·.1) = kvs.map (fun p => lfK p.1) := by simp [lfs]
theorem pair_keys : ∀ {ks : List (Leaf × V)} {es : List (Leaf × DV)}, Paired (KVOk P w K F α) ks es → ks.map (·.1) = es.map (·.1)
  | _, _, .nil => rfl
  | _, _, .cons h t => by rw [List.map_cons, List.map_cons, h.1, pair_keys t]
theorem snd_dcP {tt : TT} {dt : DTT} {tk tv : TE} {dk dv : DTE} {vs : List Nat} (hi : SndI P w K wi di) (hg : SndG P w K js g dg) (ht : SndT P w K tt dt) (hk : SndE P w K tk dk) (he : SndE P w K tv dv) (hj : ∀ j ∈ js, j ∈ vs) :
    ∀ (B : Bs) (S : DSt) (σ : L2.St) (ts : List (V × DV)) (H : Hp) (R : List (Leaf × DV) → DSt → Prop) (Q : VK), StOk P w K B S σ ts H → dDcP di dg dt dk dv vs S R →
    (∀ (D : Addr) kvs es S' H' F α, R es S' → StAt P w K B S' σ ts H' F α → H' D = some (.dK kvs) → F D = none → D ∉ α → B.H D = none → Paired (KVOk P w K F α) (lfs kvs) es → Q (.ref D) H') → tDc wi g tt tk tv vs σ H Q := fun B S σ ts H R Q h hd k =>
  hi B S σ ts H _ _ h hd fun ys St S1 H1 J Gp Y us hr o wk hG hY => by
    obtain ⟨I, h0, hst, hs, hz, hdn⟩ := hr
    obtain ⟨F1, α1, o1⟩ := o
    intro D hD
    have b1 := o1.base
    have hF1 : F1 D = none := o1.freeF hD
    have hα1 : D ∉ α1 := fun q => o1.an D q hD
    let ρw := wipeD S1.ρ vs
    let B1 : Bs := ⟨F1, H1, α1⟩
    let Pv : Nat → Hp → Prop := fun i H2 => ∃ kvs es μ F α, I i es μ ∧ kvs.map (fun p => lfK p.1) = es.map (·.1) ∧ kvs.length ≤ i ∧ StAt P w K B1 ⟨ρw, μ⟩ (wipe σ vs) (DcK kvs es ++ (us ++ ts)) H2 F α ∧ H2 D = some (.dK kvs) ∧ F D = none ∧ D ∉ α
    have p0 : Pv 0 (upd H1 D (.dK [])) := ⟨[], [], S1.μ, F1, α1, h0, rfl, Nat.le_refl _, ((b1.wipe vs).free hα1 hF1 hD), upd_same, hF1, hα1⟩
    refine ⟨fun i m H => m = ys.length - i ∧ i ≤ ys.length ∧ Pv i H, ⟨ys.length, by simp, Nat.zero_le _, p0⟩, ?_⟩
    rintro i m H2 ⟨rfl, hi', kvs, es, μ, F, α, q, hl, hli, o2, hD2, hF2, hα2⟩
    have gG : Gp H2 := hG B1 _ (wipe σ vs) H2 _ (fun p hp => List.mem_append_right _ (List.mem_append_left _ hp)) (hst i es μ hi' q) o2.ok
    by_cases hlt : i < ys.length
    · refine .inr ⟨wk.goes i H2 hlt gG, Pv (i + 1), fun H' p' => ⟨_, by omega, rfl, hlt, p'⟩, fun x H3 y => ?_⟩
      have y := wk.yields i H2 x H3 hlt gG y
      have b2 := o2.base
      obtain ⟨yy, e1, sy⟩ := hY ⟨F, H2, α⟩ i ⟨ρw, μ⟩ (wipe σ vs) H2 x H3 _ hlt (fun p hp => List.mem_append_right _ (List.mem_append_left _ hp)) (hst i es μ hi' q) b2.ok y
      refine hg _ _ _ _ H3 x yy _ _ sy (hs i yy es μ e1 q) fun S3 σ3 H4 q3 _ hw o3 => ⟨?_, ?_⟩
      · rw [hw vs hj, wipe_wipe σ vs vs fun _ z => z]
      · refine ht _ S3 σ3 _ H4 _ _ o3 q3 fun b S4 H5 q4 o4 => ?_
        cases b with
        | false =>
          obtain ⟨F5, α5, o5⟩ := o4
          obtain ⟨d1, d2, d3⟩ := o5.bc D _ hD2 hF2 hα2
          have o6 := o2.rebase o5
          refine ⟨kvs, es, S4.μ, F5, α5, q4, hl, Nat.le_succ_of_le hli, o6.slots (o2.len) (fun j e r => ?_), d1, d2, d3⟩
          obtain ⟨v, g1, g2⟩ := o2.sl j e r
          exact ⟨v, g1, o5.known g2⟩
        | true =>
          refine hk _ S4 σ3 _ H5 _ _ o4 q4 fun ky kd S5 H6 q5 o5 => ?_
          refine he _ S5 σ3 _ H6 _ _ o5 q5 fun y' d' S6 H7 q6 o6 => ?_
          obtain ⟨F7, α7, o7⟩ := o6
          obtain ⟨d1, d2, d3⟩ := o7.bc D _ hD2 hF2 hα2
          have o8 := o2.rebase o7
          cases e5 : intKey kd with
          | none => rw [e5] at q6; exact q6.elim
          | some kk =>
            rw [e5] at q6
            refine ⟨kvs, kk, intKey_ok o7.top2 e5, d1, by omega, ?_⟩
            have hp0 : Paired (KVOk P w K F7 α7) (lfs kvs) es := dcK_paired hl fun p hp => o7.tm p (List.mem_cons_of_mem _ (List.mem_cons_of_mem _ (List.mem_append_left _ hp)))
            have hp1 : Paired (KVOk P w K F7 α7) (lfs (putK kvs kk y')) (putG es (lfK kk) d') := by
              rw [lfs_put]; exact putG_ok hp0 _ o7.top
            have hkeys : (putK kvs kk y').map (fun p => lfK p.1) = (putG es (lfK kk) d').map (·.1) := by
              rw [← lfs_keys]; exact pair_keys hp1
            have hlen := length_putK kvs kk y'
            have o9 : StAt P w K B1 ⟨ρw, S6.μ⟩ (wipe σ vs) _ H7 F7 α7 := o8.slots (o2.len) fun j e r => by
              obtain ⟨v, g1, g2⟩ := o2.sl j e r
              exact ⟨v, g1, o7.known g2⟩
            refine ⟨putK kvs kk y', putG es (lfK kk) d', S6.μ, F7, α7, q6, hkeys, by omega, ?_, upd_same, d2, d3⟩
            have o10 := o9.free (o := .dK (putK kvs kk y')) d3 d2 hD
            refine { o10 with tm := fun z hz' => ?_ }
            rcases List.mem_append.mp hz' with hz' | hz'
            · exact mem_dcK hkeys hp1 z hz'
            · exact o9.tm z (List.mem_cons_of_mem _ (List.mem_cons_of_mem _ (List.mem_append_right _ hz')))
    · have e : i = ys.length := by omega
      subst e
      refine .inl ⟨wk.stops H2 gG, ?_⟩
      have hp : Paired (KVOk P w K F α) (lfs kvs) es := dcK_paired hl fun p hp => o2.tm p (List.mem_append_left _ hp)
      have o3 : StAt P w K B1 ⟨S1.ρ, μ⟩ σ (us ++ ts) H2 F α := (o2.sub fun p hp => List.mem_append_right _ hp).slots o1.len fun j e r => by
        obtain ⟨v, g1, g2⟩ := o1.sl j e r
        exact ⟨v, g1, o2.known g2⟩
      have o4 := o1.rebase o3
      exact k D kvs es _ H2 F α (hdn es μ q) (o4.sub fun p hp => List.mem_append_right _ hp) hD2 hF2 hα2 (o1.freshB hD) hp
theorem snd_dcC {tt : TT} {dt : DTT} {tk tv : TE} {dk dv : DTE} {vs : List Nat} (hi : SndI P w K wi di) (hg : SndG P w K js g dg) (ht : SndT P w K tt dt) (hk : SndE P w K tk dk) (he : SndE P w K tv dv) (hj : ∀ j ∈ js, j ∈ vs) :
    SndE P w K (tView P w (tDc wi g tt tk tv vs)) (dDcC di dg dt dk dv vs) := fun B S σ ts H R Q h hd k =>
  snd_dcP hi hg ht hk he hj B S σ ts H _ _ h hd fun D kvs es S' H' F α r o hD hF hα hB hp => by
    refine ⟨D, kvs, rfl, hD, ?_⟩
    have o1 := o.free (o := DicO P w D (lfs kvs)) hα hF hB
    have o2 := o1.adopt (o := .dic es) hα hF (by rw [upd_same]; exact fun z => by cases z) hB ⟨_, upd_same, paired_up (fun _ _ q => ⟨q.1, q.2.up (Ex.refl _)⟩) hp⟩
    exact k _ _ _ _ r (o2.add (d := .cell S'.μ.length) ⟨D, by rw [← o.al, List.getElem?_append_right (Nat.le_refl _), Nat.sub_self]; rfl, rfl⟩).ok
end
end DL

set_option Elab.async false
set_option linter.all false
set_option maxRecDepth 100000
set_option autoImplicit false
set_option maxHeartbeats 2000000
namespace DL
open PySem PySem.Spec L2

section
variable {X : Cx} {dg : DTG} {dt : DTT} {dk dv : DTE} {js : List Nat}
/-- d = {k: v for ..}: the dict is stored first, then the block goes -/
theorem ps_setDc {i : Nat} {y : Str} {py : Pos} {ke ve tg iter : Expr} {ifs : List Expr} {scope : Scope} {own : List (Str × Nat)} {pos spos : Pos} {wi : TI} {g : TG} {tt : TT} {tk tv : TE} (hc : X.calm = true) (hN : X.N.Nodup) (hy : X.N[i]? = some y) (hyl : X.env.scope.names.lookup y = some .local)
    (hsw : swapsWith (.DictComp ke ve [⟨tg, iter, ifs, 0⟩] scope pos) (some (.Name y py)) spos.line X.env = pure true) (hi : PI X tg iter wi) (ok : BlkOk X.N X.env.scope scope own)
    (blk : ∀ (s : Shared) (H : Hp) (C : Addr) (cl : List (Str × Addr)) (fp : List Addr), PG (X.blk s H scope (compEnvC scope cl C X.env) fp) tg g ∧ PTs (X.blk s H scope (compEnvC scope cl C X.env) fp) ifs tt ∧ PE (X.blk s H scope (compEnvC scope cl C X.env) fp) ke tk ∧ PE (X.blk s H scope (compEnvC scope cl C X.env) fp) ve tv)
    (hs : ∀ x, foldedSetIterable iter X.env x = pure x) : PS X (.Assign [.Name y py] (.DictComp ke ve [⟨tg, iter, ifs, 0⟩] scope pos) spos) (tAsg (tView X.prog X.w (tDc wi g tt tk tv (own.map (·.2)))) (gName i)) := ⟨fun pins s σ H D I h => by
  have use : tDc wi g tt tk tv (own.map (·.2)) σ H fun v H1 => ∃ a kvs, v = .ref a ∧ H1 a = some (.dK kvs) ∧ gName i v σ (upd H1 a (DicO X.prog X.w a (lfs kvs))) D.nx := h
  rw [exec_Assign_Name_used _ _ _ _ hsw]
  refine wpAny_bind (wpAny_standAt (wpAny_bind (wpAny_bind ?_)))
  refine thn (dc_core (use := some (assign (.Name y py) X.env)) (Qf := fun _ z => SP X pins D .next z) hc hN I hi ok (fun s H C cl fp => (blk s H C cl fp).1) (fun s H C cl fp => (blk s H C cl fp).2.1) (fun s H C cl fp => (blk s H C cl fp).2.2.1) (fun s H C cl fp => (blk s H C cl fp).2.2.2) hs use ?_) fun _ _ z => wpAny_pure (wpAny_pure z)
  intro L C z1 m G J ⟨a, kvs, ea, hG, nx⟩ ns fp
  cases ea
  obtain ⟨p0, p1, p2, p3, p4, p5⟩ := fp
  refine wpAny_assign_Name (store_ok2 (v := V.ref L) J hN hy (.inl hyl) rfl (fun z2 J2 ⟨b, same, hb⟩ => ?_) (.inr hyl))
  have off : C ≠ b := by
    intro e
    rcases hb with w1 | w1
    · exact p1 (e.trans w1)
    · exact p4 y b w1 e.symm
  refine ⟨m, ns.sameBut same off, fun h3 same3 => ?_⟩
  have J3 := J2.turned (t' := z2.toks) (h' := h3) (fun b o hb e => (same3.2 b hb).trans e) p0 p1 p3 p4 p5
  obtain ⟨z, hd, vs, rel, dd⟩ := dk_of J3.hok hG
  have dd' := lf_dict dd
  have he : ∃ o, h3.get? L = some o := let ⟨o, _, _, ho, _⟩ := dd'; ⟨o, ho⟩
  exact ⟨_, _, J3.write (t' := z2.toks) (h' := h3) (x := L) (e := L) (by rw [hG]; exact True.intro) (.inl rfl) (fun _ _ _ q => q) he (dz_ok (by simpa [lfs] using z) hd (lf_kv rel) dd'), nx⟩⟩
theorem de_dcC {own : List (Str × Nat)} {ke ve tg iter : Expr} {ifs : List Expr} {scope : Scope} {pos : Pos} {di : DTI} (hc : X.calm = true) (hN : X.N.Nodup) (hi : DI X tg iter di) (ok : BlkOk X.N X.env.scope scope own)
    (blk : ∀ (s : Shared) (H : Hp) (C : Addr) (cl : List (Str × Addr)) (fp : List Addr), DG (blkX X scope s H C cl fp) tg js dg ∧ DTs (blkX X scope s H C cl fp) ifs dt ∧ DE (blkX X scope s H C cl fp) ke dk ∧ DE (blkX X scope s H C cl fp) ve dv)
    (hj : ∀ j ∈ js, j ∈ own.map (·.2)) (hs : ∀ x, foldedSetIterable iter X.env x = pure x := by intro _; rfl) : DE X (.DictComp ke ve [⟨tg, iter, ifs, 0⟩] scope pos) (dDcC di dg dt dk dv (own.map (·.2))) := by
  obtain ⟨wi, a1, a2⟩ := hi.ex
  have b := blk
  exact ⟨_, pe_view (pe_dc (g := canG X.prog X.w X.K js dg) (tt := canT X.prog X.w X.K dt) (tk := canE X.prog X.w X.K dk) (tv := canE X.prog X.w X.K dv) hc hN a1 ok (fun s H C cl fp => (b s H C cl fp).1.can) (fun s H C cl fp => (b s H C cl fp).2.1.can) (fun s H C cl fp => (b s H C cl fp).2.2.1.can) (fun s H C cl fp => (b s H C cl fp).2.2.2.can) hs), snd_dcC a2 (snd_canG js dg) (snd_canT dt) (snd_canE dk) (snd_canE dv) hj⟩
theorem ds_setDcC {i : Nat} {y : Str} {py : Pos} {own : List (Str × Nat)} {ke ve tg iter : Expr} {ifs : List Expr} {scope : Scope} {pos spos : Pos} {di : DTI} (hc : X.calm = true) (hN : X.N.Nodup) (hy : X.N[i]? = some y) (hyl : X.env.scope.names.lookup y = some .local)
    (hsw : swapsWith (.DictComp ke ve [⟨tg, iter, ifs, 0⟩] scope pos) (some (.Name y py)) spos.line X.env = pure true) (hi : DI X tg iter di) (ok : BlkOk X.N X.env.scope scope own)
    (blk : ∀ (s : Shared) (H : Hp) (C : Addr) (cl : List (Str × Addr)) (fp : List Addr), DG (blkX X scope s H C cl fp) tg js dg ∧ DTs (blkX X scope s H C cl fp) ifs dt ∧ DE (blkX X scope s H C cl fp) ke dk ∧ DE (blkX X scope s H C cl fp) ve dv)
    (hj : ∀ j ∈ js, j ∈ own.map (·.2)) (hs : ∀ x, foldedSetIterable iter X.env x = pure x := by intro _; rfl) : DS X (.Assign [.Name y py] (.DictComp ke ve [⟨tg, iter, ifs, 0⟩] scope pos) spos) (dAsg (dDcC di dg dt dk dv (own.map (·.2))) (dgName i)) := by
  obtain ⟨wi, a1, a2⟩ := hi.ex
  have b := blk
  refine ⟨_, ps_setDc (g := canG X.prog X.w X.K js dg) (tt := canT X.prog X.w X.K dt) (tk := canE X.prog X.w X.K dk) (tv := canE X.prog X.w X.K dv) hc hN hy hyl hsw a1 ok (fun s H C cl fp => ⟨(b s H C cl fp).1.can, (b s H C cl fp).2.1.can, (b s H C cl fp).2.2.1.can, (b s H C cl fp).2.2.2.can⟩) hs, fun B S σ ts H D G h hd l => ?_⟩
  refine snd_dcC a2 (snd_canG js dg) (snd_canT dt) (snd_canE dk) (snd_canE dv) hj B S σ ts H _ _ h hd fun v d S1 H1 q o => ?_
  obtain ⟨F, α, o⟩ := o
  exact l.nx _ _ H1 q ((o.setSlot o.top).sub mem1).ok
end

/-! ## a state is known less, or a cell is frozen -/
/-- what is known under d, S is known under d', S' -/
def Wk (P : Program) (w : World) (K : PySem.W.Frag) (d : DV) (S : DSt) (d' : DV) (S' : DSt) : Prop :=
  ∀ (B : Bs) (σ : L2.St) (ts : List (V × DV)) (H : Hp) (v : V) (F : Hp) (α : List Addr), StAt P w K B S σ ts H F α → VOk P w K F α v d → ∃ F', StAt P w K B S' σ ts H F' α ∧ VOk P w K F' α v d' ∧ Ex F F'
section
variable {P : Program} {w : World} {K : PySem.W.Frag} {S S' S'' : DSt} {d d' d'' : DV}
theorem Wk.refl : Wk P w K d S d S := fun _ _ _ _ _ F _ h hv => ⟨F, h, hv, Ex.refl F⟩
theorem Wk.trans (a : Wk P w K d S d' S') (b : Wk P w K d' S' d'' S'') : Wk P w K d S d'' S'' := fun B σ ts H v F α h hv => by
  obtain ⟨F1, h1, v1, e1⟩ := a B σ ts H v F α h hv
  obtain ⟨F2, h2, v2, e2⟩ := b B σ ts H v F1 α h1 v1
  exact ⟨F2, h2, v2, e1.trans e2⟩
/-- the names and the cells that are not asked for any more go -/
theorem Wk.drop {ρ : List (Option DV)} {μ : List (Option DO)} (hl : ρ.length = S.ρ.length) (hm : μ.length = S.μ.length) (h1 : ∀ (i : Nat) (e : DV), ρ[i]? = some (some e) → S.ρ[i]? = some (some e)) (h2 : ∀ (i : Nat) (e : DO), μ[i]? = some (some e) → S.μ[i]? = some (some e)) : Wk P w K d S d ⟨ρ, μ⟩ := fun B σ ts H v F α h hv =>
  ⟨F, ⟨h.fh, h.bh, h.bf, h.bc, h.bp, h.bn, h.nd, h.al.trans hm.symm, h.an, hl.trans h.len, fun i e q => h.sl i e (h1 i e q), h.tm, fun i e q => h.ce i e (h2 i e q)⟩, hv, Ex.refl F⟩
theorem pairedR {A C E : Type} {r : A → C → Prop} {r' : A → E → Prop} {f : C → E} : ∀ {xs : List A} {ds : List C}, Paired r xs ds → (∀ v d, r v d → r' v (f d)) → Paired r' xs (ds.map f)
  | _, _, .nil, _ => .nil
  | _, _, .cons h t, g => .cons (g _ _ h) (pairedR t g)
/-- one cell is frozen: the cells of S' may name the data in its place -/
def frzC (k : Nat) (p : PyData) : DV → DV
  | .cell j => if j = k then .imm p else .cell j
  | d => d
def frzO (k : Nat) (p : PyData) : DO → DO
  | .lst ds => .lst (ds.map (frzC k p))
  | .dic kvs => .dic (kvs.map fun q => (q.1, frzC k p q.2))
  | .ins C fs => .ins C (fs.map fun q => (q.1, frzC k p q.2))
  | .ho φ => .ho φ
  | .lck ob kvs => .lck ob (kvs.map fun q => (q.1, frzC k p q.2))
def _root_.DL.DSt.frz1 (S : DSt) (k : Nat) (p : PyData) : DSt := ⟨S.ρ.map (Option.map (frzC k p)), (S.μ.set k none).map (Option.map (frzO k p))⟩
theorem frz_at {B : Bs} {σ : L2.St} {ts : List (V × DV)} {H F : Hp} {α : List Addr} {k : Nat} {a : Addr} {o : HO} {p : PyData} (h : StAt P w K B S σ ts H F α) (ha : α[k]? = some a) (hF : F a = none) (hH : H a = some o)
    (hp : Rp P w K (upd F a o) (.ref a) p) : StAt P w K B (S.frz1 k p) σ ts H (upd F a o) α ∧ (∀ v d, VOk P w K F α v d → VOk P w K (upd F a o) α v (frzC k p d)) ∧ Ex F (upd F a o) := by
  have e : Ex F (upd F a o) := Ex.new hF
  have am : a ∈ α := List.mem_of_getElem? ha
  have vk : ∀ v d, VOk P w K F α v d → VOk P w K (upd F a o) α v (frzC k p d) := fun v d hv => by
    cases d with
    | cell j =>
      obtain ⟨b, b1, b2⟩ := hv
      show VOk P w K (upd F a o) α v (if j = k then .imm p else .cell j)
      by_cases c : j = k
      · rw [if_pos c]
        rw [c, ha] at b1
        cases b1
        rw [b2]
        exact hp
      · rw [if_neg c]; exact ⟨b, b1, b2⟩
    | imm _ => exact VOk.up0 e hv
    | raw _ => exact VOk.up0 e hv
    | obj _ => exact VOk.up0 e hv
    | scr _ => exact VOk.up0 e hv
  refine ⟨⟨fun b u q => ?_, h.bh, h.bf.trans e, fun b u q1 q2 q3 => ?_, h.bp, h.bn, h.nd, ?_, h.an, ?_, fun i d q => ?_, fun q hq => (h.tm q hq).up0 e, fun j u q => ?_⟩, vk, e⟩
  · by_cases c : b = a
    · subst c; rw [upd_same] at q; cases q; exact hH
    · rw [upd_ne c] at q; exact h.fh b u q
  · obtain ⟨h1, h2, h3⟩ := h.bc b u q1 q2 q3
    have c : b ≠ a := fun z => h3 (z ▸ am)
    exact ⟨h1, by rw [upd_ne c]; exact h2, h3⟩
  · unfold DSt.frz1; rw [List.length_map, List.length_set]; exact h.al
  · unfold DSt.frz1; rw [List.length_map]; exact h.len
  · unfold DSt.frz1 at q; rw [List.getElem?_map] at q
    cases q2 : S.ρ[i]? with
    | none => rw [q2] at q; cases q
    | some u =>
      rw [q2] at q
      cases u with
      | none => cases q
      | some d0 =>
        cases q
        obtain ⟨v, h1, h2⟩ := h.sl i d0 q2
        exact ⟨v, h1, vk v d0 h2⟩
  · unfold DSt.frz1 at q; rw [List.getElem?_map] at q
    by_cases c : k = j
    · subst c
      rw [List.getElem?_set_self (by rw [← h.al]; exact (List.getElem?_eq_some_iff.mp ha).1)] at q
      cases q
    · rw [List.getElem?_set_ne c] at q
      cases q2 : S.μ[j]? with
      | none => rw [q2] at q; cases q
      | some u0 =>
        rw [q2] at q
        cases u0 with
        | none => cases q
        | some u1 =>
          cases q
          obtain ⟨b, h1, h2, h3⟩ := h.ce j u1 q2
          have cb : b ≠ a := fun z => by
            subst z
            have i1 := List.getElem?_eq_some_iff.mp ha
            have i2 := List.getElem?_eq_some_iff.mp h1
            exact c ((List.getElem_inj h.nd).mp (i1.2.trans i2.2.symm))
          refine ⟨b, h1, by rw [upd_ne cb]; exact h2, ?_⟩
          cases u1 with
          | lst ds =>
            obtain ⟨xs, x1, x2⟩ := h3
            exact ⟨xs, x1, pairedR x2 (fun v d => vk v d)⟩
          | dic kvs =>
            obtain ⟨xs, x1, x2⟩ := h3
            exact ⟨xs, x1, pairedR x2 (fun v d q => ⟨q.1, vk _ _ q.2⟩)⟩
          | ins C fs =>
            obtain ⟨dx, xs, x1, x2⟩ := h3
            exact ⟨dx, xs, x1, pairedR x2 (fun v d q => ⟨q.1, vk _ _ q.2⟩)⟩
          | ho φ => exact h3
          | lck ob kvs =>
            obtain ⟨xs, x1, x2⟩ := h3
            exact ⟨xs, x1, pairedR x2 (fun v d q => ⟨q.1, vk _ _ q.2⟩)⟩
theorem Wk.frzL {k : Nat} {ds : List DV} {ps : List PyData} (e : S.cell k = some (.lst ds)) (ei : allImm ds = some ps) : Wk P w K d S (frzC k (.list ps) d) (S.frz1 k (.list ps)) := fun B σ ts H v F α h hv => by
  obtain ⟨a, g1, g2, xs, g3, g4⟩ := h.ce k _ (cell_get e)
  obtain ⟨q1, q2, q3⟩ := frz_at h g1 g2 g3 (.lst upd_same ((imms ei g4).up (Ex.new g2)))
  exact ⟨_, q1, q2 v d hv, q3⟩
def allImmK : List (Leaf × DV) → Option (List (Leaf × PyData))
  | [] => some []
  | (k, .imm d) :: r => (allImmK r).map ((k, d) :: ·)
  | _ :: _ => none
theorem allImmK_map (kvs : List (Leaf × PyData)) : allImmK (kvs.map fun p => (p.1, .imm p.2)) = some kvs := by
  induction kvs with
  | nil => rfl
  | cons p r ih => show (allImmK (r.map _)).map _ = _; rw [ih]; rfl
theorem immsK {F : Hp} {α : List Addr} : ∀ {es : List (Leaf × DV)} {ps : List (Leaf × PyData)} {ks : List (Leaf × V)}, allImmK es = some ps → Paired (KVOk P w K F α) ks es → ps.map (fun p => kvD p.1) = ks.map (fun p => kvD p.1) ∧ RpAll P w K F (ks.map (·.2)) (ps.map (·.2))
  | [], _, _, e, .nil => by cases e; exact ⟨rfl, .nil⟩
  | (k, d) :: r, ps, _, e, .cons h t => by
    cases d with
    | imm d =>
      have e' : (allImmK r).map ((k, d) :: ·) = some ps := e
      cases q : allImmK r with
      | none => rw [q] at e'; cases e'
      | some l =>
        rw [q] at e'
        cases e'
        obtain ⟨i1, i2⟩ := immsK q t
        exact ⟨by rw [List.map_cons, List.map_cons, i1, h.1], .cons h.2 i2⟩
    | _ => cases e
theorem Wk.frzD {k : Nat} {es : List (Leaf × DV)} {ps : List (Leaf × PyData)} (e : S.cell k = some (.dic es)) (ei : allImmK es = some ps) : Wk P w K d S (frzC k (.dict (ps.map fun p => (kvD p.1, p.2))) d) (S.frz1 k (.dict (ps.map fun p => (kvD p.1, p.2)))) := fun B σ ts H v F α h hv => by
  obtain ⟨a, g1, g2, xs, g3, g4⟩ := h.ce k _ (cell_get e)
  obtain ⟨i1, i2⟩ := immsK ei (show Paired (KVOk P w K F α) xs es from g4)
  obtain ⟨q1, q2, q3⟩ := frz_at h g1 g2 g3 (.dic (ps := ps.map fun p => (kvD p.1, p.2)) upd_same (by rw [List.map_map]; exact i1) (by rw [List.map_map]; exact RpAll.up (Ex.new g2) i2))
  exact ⟨_, q1, q2 v d hv, q3⟩
def dRetW (P : Program) (w : World) (K : PySem.W.Frag) (de : DTE) : DTS := fun D S => de S fun d S1 => ∃ d' S', Wk P w K d S1 d' S' ∧ D.rt d' S'
def dPost (P : Program) (w : World) (K : PySem.W.Frag) (ds : DTS) : DTS := fun D S => ds { D with nx := fun S1 => ∃ d' S', Wk P w K dN S1 d' S' ∧ D.nx S' } S
end
section
variable {X : Cx} {st : Stmt} {e : Expr} {de : DTE} {ds : DTS} {pos : Pos}
theorem ds_retW (he : DE X e de) : DS X (.Return (some e) pos) (dRetW X.prog X.w X.K de) := by
  obtain ⟨t, a1, a2⟩ := he.ex
  refine ⟨_, ps_ret a1, fun B S σ ts H D G h hd l => a2 B S σ ts H _ _ h hd fun v d S1 H1 q o => ?_⟩
  obtain ⟨d', S', hw, q⟩ := q
  obtain ⟨F, α, o⟩ := o
  obtain ⟨F', o', v', ex⟩ := hw B σ ts H1 v F α (o.sub mem1) o.top
  exact l.rt v d' S' σ H1 q (o'.add v').ok
theorem ds_post (h : DS X st ds) : DS X st (dPost X.prog X.w X.K ds) := by
  obtain ⟨t, a1, a2⟩ := h.ex
  refine ⟨t, a1, fun B S σ ts H D G h hd l => a2 B S σ ts H _ G h hd ⟨fun S1 σ1 H1 q o => ?_, l.rt, l.bk, l.ct⟩⟩
  obtain ⟨d', S', hw, q⟩ := q
  obtain ⟨F, α, o⟩ := o
  obtain ⟨F', o', _, ex⟩ := hw B σ1 ts H1 .non F α o vnon
  exact l.nx S' σ1 H1 q o'.ok
end
end DL

set_option Elab.async false
set_option linter.all false
set_option maxRecDepth 100000
set_option autoImplicit false
set_option maxHeartbeats 2000000
namespace DL
open PySem PySem.Spec L2

/-! ## the law's own call: the caller has no guards -/
section
variable {P : Program} {w : World} {K : PySem.W.Frag} {mg mb : Str → Option Value} {s₁ : Shared} {a : Addr} {vs : List Value} {ns : List Int}
/-- what is known at the call -/
structure AtLaw (K : PySem.W.Frag) (mg mb : Str → Option Value) (s₁ : Shared) (a : Addr) (vs : List Value) (ns : List Int) : Prop where
  kin : K.In s₁.heap
  glob : s₁.heap.Ns mainGlobals mg
  blt : s₁.heap.Ns builtinsNs mb
  boot : ∀ x : Str, x ≠ "__name__" → mb x = bootBuiltins x
  lim : s₁.heap.NoLimit
  gens : s₁.gens = #[]
  obj : s₁.heap.get? a = some { cls := .type "list", data := .seq vs.toArray }
  nums : PyProof.Rows.IntsAre vs ns
  len : ns.length ≤ sizeLine
/-- the one object that may be tracked: the script -/
def scrH (K : PySem.W.Frag) (a : Addr) (vs : List Value) (ns : List Int) : Hp := fun b => if b = a ∧ (K.lookup a).isNone = true then some (.frz { cls := .type "list", data := .seq vs.toArray } (.lst (ns.map V.int))) else none
theorem scrH_some {b : Addr} {o : HO} (h : scrH K a vs ns b = some o) : b = a ∧ K.lookup a = none ∧ o = .frz { cls := .type "list", data := .seq vs.toArray } (.lst (ns.map V.int)) := by
  unfold scrH at h
  split at h
  · rename_i c
    exact ⟨c.1, Option.isNone_iff_eq_none.mp c.2, (Option.some.inj h).symm⟩
  · cases h
theorem AtLaw.seq (L : AtLaw K mg mb s₁ a vs ns) : SqL K (scrH K a vs ns) a (ns.map V.int) := by
  have rv : Vals (ns.map V.int) vs := vals_ints L.nums
  cases e : K.lookup a with
  | none => exact .inl (.inr ⟨_, by unfold scrH; rw [e]; exact if_pos ⟨rfl, rfl⟩⟩)
  | some o =>
    have q := L.kin a o e
    rw [L.obj] at q
    have q := Option.some.inj q
    subst q
    exact .inr ⟨_, vs.toArray, _, e, rfl, rfl, rfl, by rw [List.size_toArray, L.nums.length]; exact L.len, by simpa using rv⟩
theorem AtLaw.ok (L : AtLaw K mg mb s₁ a vs ns) : HOk P w (scrH K a vs ns) s₁.heap := fun b u h => by
  obtain ⟨rfl, _, rfl⟩ := scrH_some h
  exact ⟨L.obj, by rw [List.length_map]; exact L.len, vs, _, vals_ints L.nums, L.obj⟩
theorem AtLaw.env (L : AtLaw K mg mb s₁ a vs ns) : Env0 P w K mg (hidT s₁.heap (scrH K a vs ns)) callerA [] s₁ (scrH K a vs ns) := by
  have stay : ∀ {b : Addr} {o : Obj}, s₁.heap.get? b = some o → (b = a → o.data ≠ .seq vs.toArray) → (hidT s₁.heap (scrH K a vs ns)).get? b = some o := fun {b o} e hd => hidT_get e (by
    cases q : scrH K a vs ns b with
    | none => rfl
    | some u =>
      obtain ⟨rfl, _, _⟩ := scrH_some q
      rw [L.obj] at e
      exact absurd (by rw [← Option.some.inj e]) (hd rfl))
  have names : ∀ {b : Addr} {m : Str → Option Value}, s₁.heap.Ns b m → (hidT s₁.heap (scrH K a vs ns)).Ns b m := fun ⟨o, es, ep, e, d, r⟩ => ⟨o, es, ep, stay e (fun _ z => by rw [d] at z; cases z), d, r⟩
  obtain ⟨mc, lim, lim'⟩ := L.lim
  refine ⟨rfl, ⟨fun b o e => hidT_get (L.kin b o e) ?_, names L.glob, ⟨mb, names L.blt, L.boot⟩, ⟨mc, names lim, lim'⟩⟩, fun b o e => of_hidT e, Nat.le_of_eq (hidT_size _ _), trivial, (fun b hb => nomatch hb), L.ok, .of_eq L.gens⟩
  cases q : scrH K a vs ns b with
  | none => rfl
  | some u =>
    obtain ⟨rfl, n, _⟩ := scrH_some q
    rw [n] at e
    cases e
/-- the promise over data, met at the law's own call -/
theorem AtLaw.call {k : Nat} {fa : Addr} {fd : FuncData} {x : Str} {dsp : DSp} (L : AtLaw K mg mb s₁ a vs ns) (hr : Room k callerA) (F : DFn P w K mg (hidT s₁.heap (scrH K a vs ns)) k fa fd [x] dsp) (hb : ∀ (s : Shared) (u : Value), BindsTo s fd ⟨[u], []⟩ [(x, u)])
    (hd : dsp [.scr ns] [] fun d _ => d = dB true) :
    codeAny (model P w) callerA (.call (.ref fa) ⟨[.ref a], []⟩) (fun r s' => r = .ok (.ret (.bool true)) ∧ OldK s₁.heap s'.heap ∧ s'.os = s₁.os ∧ PyProof.Rows.AllBare s'.gens) s₁ := by
  have st : StAt P w K ⟨scrH K a vs ns, scrH K a vs ns, []⟩ ⟨[DV.scr ns].map some, []⟩ ([V.ref a].map some) [] (scrH K a vs ns) (scrH K a vs ns) [] :=
    ⟨Ex.refl _, Ex.refl _, Ex.refl _, fun b o q1 q2 _ => absurd (q2.symm.trans q1) (fun z => nomatch z), rfl, fun _ z => (nomatch z), List.nodup_nil, rfl, fun _ z => (nomatch z), rfl, fun i d q => by
      match i, q with
      | 0, q => cases q; exact ⟨.ref a, rfl, a, rfl, L.seq⟩
      | i + 1, q => simp at q, fun _ z => (nomatch z), fun k o q => by simp at q⟩
  have sp : spD P w K dsp [.ref a] (scrH K a vs ns) (fun v _ => v = .bl true) (fun _ _ _ => False) :=
    ⟨_, [], [.scr ns], [], _, st, rfl, hd, fun v d ρ σ μ' H' e o => by subst e; obtain ⟨F', α', o⟩ := o; exact vok_bl o.top⟩
  refine codeAny_mono (F.fn.run callerA [] s₁ _ ⟨[.ref a], []⟩ [.ref a] [.ref a] _ _ hr rfl L.env (hb s₁ _) (.cons rfl .nil) sp) fun r s' h => ?_
  match r, h with
  | .ok (.ret u), h =>
    obtain ⟨v, H', os, bare, un, hok', rv, e⟩ := h
    have e' : v = .bl true := e
    subst e'
    cases (show u = Value.bool true from rv)
    refine ⟨rfl, OldK.of_keep fun b o e => ?_, os, bare⟩
    cases q : scrH K a vs ns b with
    | none => exact un.keep b o e q (fun z => nomatch z) (fun z => nomatch z)
    | some u =>
      obtain ⟨rfl, _, rfl⟩ := scrH_some q
      rw [L.obj] at e
      cases e
      exact (hok' b _ (un.frzs b _ _ q)).1
  | .ok .next, h => exact False.elim h
  | .ok .brk, h => exact False.elim h
  | .ok .cont, h => exact False.elim h
  | .error e, h => exact absurd h id
end
/-- THE END of a law: what k_head leaves, from the promise over data -/
theorem walk_ofD {l : PySem.W.OpenLaw} {n k : Nat} {q : Program} {loose : List Str} {XP : (Str → Option Value) → Heap → Prop} {YP : World → Heap → Prop} {d : DefRec} {K : Params → PySem.W.Frag} {x : Str} {dsp : World → DSp}
    (hn : l.most = some n) (hn2 : n ≤ sizeLine) (hdf : d.params.defaults = []) (hr : Room k callerA) (hY : ∀ (w : World) (h : Heap), YP w h → (K w.params).In h)
    (F : ∀ (w : World) (mg : Str → Option Value) (fa : Addr) (h : Heap), (K w.params).In h → h.Ns mainGlobals mg → mg d.name = some (.ref fa) →
      ∃ fd : FuncData, (∀ (s : Shared) (u : Value), BindsTo s fd ⟨[u], []⟩ [(x, u)]) ∧ ∀ base : Heap, (K w.params).In base → base.Ns mainGlobals mg → DFn l.prog w (K w.params) mg base k fa fd [x] (dsp w))
    (hsp : ∀ (w : World) (ns : List Int), ns.length ≤ n → (∀ z ∈ ns, Builtin.Int.intBits z ≤ 1048576) → dsp w [.scr ns] [] fun d _ => d = dB true) :
    PySem.W.WalkO q loose XP YP l.row.toRowW d [] (fun f vs => PySem.call f vs) := by
  refine Att.attach_callB hn hdf fun w s₀ s₁ mg mb fa o pm cd doc a vs ns G Y _ _ _ hmg hobj hints hlen hbits hg => ?_
  have KX := hY w _ Y
  obtain ⟨fd, hb, hF⟩ := F w mg fa _ KX G.T.g hmg
  have L : AtLaw (K w.params) mg mb s₁ a vs ns := ⟨KX, G.T.g, G.T.b, G.T.builtins, G.T.nolimit, hg, hobj, hints, Nat.le_trans hlen hn2⟩
  exact L.call hr (hF _ (L.env (P := l.prog) (w := w)).mod.kin (L.env (P := l.prog) (w := w)).mod.glob) hb (hsp w ns hlen hbits)
end DL

set_option Elab.async false
set_option linter.all false
set_option maxRecDepth 100000
set_option autoImplicit false
set_option maxHeartbeats 2000000
namespace DL
open PySem PySem.Spec L2 PyProof.Rows

/-! ## readings with a choice: what becomes a cell is said where the data are known -/
def dOrE (da db : DTE) : DTE := fun S R => da S R ∨ db S R
def gOr (g g' : D2) : D2 := fun x y S R => g x y S R ∨ g' x y S R
abbrev dLstX (da : DTA) : DTE := dOrE (dLst da) (dLstC da)
abbrev dLcX (di : DTI) (dg : DTG) (dt : DTT) (de : DTE) (vs : List Nat) : DTE := dOrE (dLc di dg dt de vs) (dLcC di dg dt de vs)
abbrev dCallX (dsp : DSp) (dds : List DV) (da : DTA) : DTE := dCall dsp dds da
section
variable {P : Program} {w : World} {K : PySem.W.Frag} {te : TE} {da db : DTE} {r : R2} {g g' : D2}
theorem snd_orE (h1 : SndE P w K te da) (h2 : SndE P w K te db) : SndE P w K te (dOrE da db) := fun B S σ ts H R Q h hd k => by
  rcases hd with hd | hd
  · exact h1 B S σ ts H R Q h hd k
  · exact h2 B S σ ts H R Q h hd k
theorem snd_gOr (h1 : SndR P w K r g) (h2 : SndR P w K r g') : SndR P w K r (gOr g g') := fun B S σ ts H x y dx dy R Q h hd k => by
  rcases hd with hd | hd
  · exact h1 B S σ ts H x y dx dy R Q h hd k
  · exact h2 B S σ ts H x y dx dy R Q h hd k
theorem snd_rOr {r' : R2} (h1 : SndR P w K r g) (h2 : SndR P w K r' g') : SndR P w K (fun x y H Q => r x y H Q ∨ r' x y H Q) (gOr g g') := fun B S σ ts H x y dx dy R Q h hd k => by
  rcases hd with hd | hd
  · exact .inl (h1 B S σ ts H x y dx dy R Q h hd k)
  · exact .inr (h2 B S σ ts H x y dx dy R Q h hd k)
end
/-! == with texts of any kind, with lists that are cells -/
def DSt.dat (S : DSt) : DV → Option PyData
  | .imm d => some d
  | .cell k => match S.cell k with
    | some (.lst ds) => (allImm ds).map .list
    | _ => none
  | _ => none
theorem StAt.dat {P : Program} {w : World} {K : PySem.W.Frag} {B : Bs} {S : DSt} {σ : L2.St} {ts : List (V × DV)} {H F : Hp} {α : List Addr} {v : V} {x : DV} {d : PyData} (h : StAt P w K B S σ ts H F α) (hv : VOk P w K F α v x) (e : S.dat x = some d) (hs : SeqAt.shaped d = true) : Dp K H v d := by
  cases x with
  | imm d0 => cases e; exact dp_of hs hv h.fh
  | cell k =>
    obtain ⟨a, h1, rfl⟩ := hv
    have e' : (match S.cell k with | some (.lst ds) => (allImm ds).map PyData.list | _ => none) = some d := e
    cases q : S.cell k with
    | none => rw [q] at e'; cases e'
    | some o =>
      rw [q] at e'
      cases o with
      | lst ds =>
        obtain ⟨ps, e1, e2⟩ := Option.map_eq_some_iff.mp (show (allImm ds).map PyData.list = some d from e')
        subst e2
        obtain ⟨a', g1, _, xs, g3, g4⟩ := h.ce k _ (cell_get q)
        cases h1.symm.trans g1
        exact .lst (SqL.of g3) (dp_layAll h.fh ps (by have := SeqAt.canLay_of_shaped hs; simpa only [PyData.canLay0] using this) (imms e1 g4))
      | dic _ => cases e'
      | ins _ _ => cases e'
      | ho _ => cases e'
      | lck _ _ => cases e'
  | raw _ => cases e
  | obj _ => cases e
  | scr _ => cases e
def gEqX : D2 := fun x y S R => match x.str?, y.str? with
  | some a, some b => R (dB (decide (a = b))) S
  | _, _ => match S.dat x, S.dat y with
    | some d, some e => (SeqAt.shaped d && SeqAt.shaped e) = true ∧ R (dB (PyData.eqv d e)) S
    | _, _ => False
def gNeX : D2 := fun x y S R => match x.str?, y.str? with
  | some a, some b => R (dB (!decide (a = b))) S
  | _, _ => match S.dat x, S.dat y with
    | some d, some e => (SeqAt.shaped d && SeqAt.shaped e) = true ∧ R (dB (!PyData.eqv d e)) S
    | _, _ => False
theorem dec_str {a b : Str} : decide (V.str a = V.str b) = decide (a = b) := by simp
theorem od_eqX {X : Cx} (hu : X.A.units + 64 < cLine) : OpD X (compareOp .Eq) gEqX := ⟨_, .or op_eq (op_eqD hu), fun B S σ ts H x y dx dy R Q h hd k => by
  obtain ⟨F, α, h⟩ := h
  unfold gEqX at hd
  split at hd
  · rename_i a b e1 e2
    rw [str?_eq e1, str?_eq e2] at h
    refine .inl ?_
    rw [vok_str h.top2, vok_str h.top]
    exact ⟨rfl, by rw [dec_str]; exact k _ _ S H hd ((h.sub mem2).add vbl).ok⟩
  · split at hd
    · rename_i d e e1 e2
      obtain ⟨s1, s2⟩ := Bool.and_eq_true_iff.mp hd.1
      exact .inr ⟨d, e, h.dat h.top2 e1 s1, h.dat h.top e2 s2, s1, s2, k _ _ S H hd.2 ((h.sub mem2).add vbl).ok⟩
    · exact hd.elim⟩
theorem od_neX {X : Cx} (hu : X.A.units + 64 < cLine) : OpD X (compareOp .NotEq) gNeX := ⟨_, .or op_ne (op_neD hu), fun B S σ ts H x y dx dy R Q h hd k => by
  obtain ⟨F, α, h⟩ := h
  unfold gNeX at hd
  split at hd
  · rename_i a b e1 e2
    rw [str?_eq e1, str?_eq e2] at h
    refine .inl ?_
    rw [vok_str h.top2, vok_str h.top]
    exact ⟨rfl, by rw [dec_str]; exact k _ _ S H hd ((h.sub mem2).add vbl).ok⟩
  · split at hd
    · rename_i d e e1 e2
      obtain ⟨s1, s2⟩ := Bool.and_eq_true_iff.mp hd.1
      exact .inr ⟨d, e, h.dat h.top2 e1 s1, h.dat h.top e2 s2, s1, s2, k _ _ S H hd.2 ((h.sub mem2).add vbl).ok⟩
    · exact hd.elim⟩
theorem room_u {k n : Nat} {A : Around} (r : Room k A) (h : n ≤ 200 := by decide) : A.units + n < cLine := by have := r.un; omega
section
variable {X : Cx} {e elt tg iter : Expr} {es ifs : List Expr} {da dr : DTA} {de : DTE} {pos : Pos} {dg : DTG} {dt : DTT} {js : List Nat} {di : DTI}
theorem de_lstX (h : DA X es dr) : DE X (.List es pos) (dLstX dr) := by
  obtain ⟨t, a1, a2⟩ := h.ex
  exact ⟨_, pe_lst a1, snd_orE (snd_lst a2) (snd_lstC a2)⟩
theorem od_addX : OpD X (binaryOp .Add) (gOr gAdd gAddC) := by
  obtain ⟨r, a1, a2⟩ := (od_add (X := X)).ex
  obtain ⟨r', b1, b2⟩ := (od_addC (X := X)).ex
  exact ⟨_, .or a1 b1, snd_rOr a2 b2⟩
theorem od_mulX : OpD X (binaryOp .Mult) (gOr gMul gMulC) := by
  obtain ⟨r, a1, a2⟩ := (od_mul (X := X)).ex
  obtain ⟨r', b1, b2⟩ := (od_mulC (X := X)).ex
  exact ⟨_, .or a1 b1, snd_rOr a2 b2⟩
theorem de_gintE {x : Str} {i : Int} (hg : Gl X x) (hm : ∃ t, X.mg x = some (.int i t)) (hd : (x == ("__debug__" : Str)) = false := by decide) : DE X (.Name x pos) (dC (dI i)) := by
  obtain ⟨t, hm⟩ := hm
  exact de_gint hg hm ⟨t, rfl⟩ hd
theorem de_lcX {own : List (Str × Nat)} {scope : Scope} (hc : X.calm = true) (hN : X.N.Nodup) (hi : DI X tg iter di) (ok : BlkOk X.N X.env.scope scope own)
    (blk : ∀ (s : Shared) (H : Hp) (C : Addr) (cl : List (Str × Addr)) (fp : List Addr), DG (blkX X scope s H C cl fp) tg js dg ∧ DTs (blkX X scope s H C cl fp) ifs dt ∧ DE (blkX X scope s H C cl fp) elt de)
    (hj : ∀ j ∈ js, j ∈ own.map (·.2)) (hs : ∀ x, foldedSetIterable iter X.env x = pure x := by intro _; rfl) : DE X (.ListComp elt [⟨tg, iter, ifs, 0⟩] scope pos) (dLcX di dg dt de (own.map (·.2))) := by
  obtain ⟨wi, a1, a2⟩ := hi.ex
  exact ⟨_, pe_lc (g := canG X.prog X.w X.K js dg) (tt := canT X.prog X.w X.K dt) (te := canE X.prog X.w X.K de) hc hN a1 ok (fun s H C cl fp => (blk s H C cl fp).1.can) (fun s H C cl fp => (blk s H C cl fp).2.1.can) (fun s H C cl fp => (blk s H C cl fp).2.2.can) hs,
    snd_orE (snd_lc a2 (snd_canG js dg) (snd_canT dt) (snd_canE de) hj) (snd_lcC a2 (snd_canG js dg) (snd_canT dt) (snd_canE de) hj)⟩
theorem ds_setLcX {i : Nat} {y : Str} {py : Pos} {own : List (Str × Nat)} {scope : Scope} {spos : Pos} (hc : X.calm = true) (hN : X.N.Nodup) (hy : X.N[i]? = some y) (hyl : X.env.scope.names.lookup y = some .local)
    (hsw : swapsWith (.ListComp elt [⟨tg, iter, ifs, 0⟩] scope pos) (some (.Name y py)) spos.line X.env = pure true) (hi : DI X tg iter di) (ok : BlkOk X.N X.env.scope scope own)
    (blk : ∀ (s : Shared) (H : Hp) (C : Addr) (cl : List (Str × Addr)) (fp : List Addr), DG (blkX X scope s H C cl fp) tg js dg ∧ DTs (blkX X scope s H C cl fp) ifs dt ∧ DE (blkX X scope s H C cl fp) elt de)
    (hj : ∀ j ∈ js, j ∈ own.map (·.2)) (hs : ∀ x, foldedSetIterable iter X.env x = pure x := by intro _; rfl) : DS X (.Assign [.Name y py] (.ListComp elt [⟨tg, iter, ifs, 0⟩] scope pos) spos) (dAsg (dLcX di dg dt de (own.map (·.2))) (dgName i)) := by
  obtain ⟨wi, a1, a2⟩ := hi.ex
  refine ⟨_, ps_setLc (g := canG X.prog X.w X.K js dg) (tt := canT X.prog X.w X.K dt) (te := canE X.prog X.w X.K de) hc hN hy hyl hsw a1 ok (fun s H C cl fp => (blk s H C cl fp).1.can) (fun s H C cl fp => (blk s H C cl fp).2.1.can) (fun s H C cl fp => (blk s H C cl fp).2.2.can) hs, fun B S σ ts H D G h hd l => ?_⟩
  refine snd_orE (snd_lc a2 (snd_canG js dg) (snd_canT dt) (snd_canE de) hj) (snd_lcC a2 (snd_canG js dg) (snd_canT dt) (snd_canE de) hj) B S σ ts H _ _ h hd fun v d S1 H1 q o => ?_
  obtain ⟨F, α, o⟩ := o
  exact l.nx _ _ H1 q ((o.setSlot o.top).sub mem1).ok
theorem de_callX {k : Nat} {f : Addr} {fd : FuncData} {ps : List Str} {dsp : DSp} {ds : List Value} {dvs : List V} {dds : List DV} {x : Str} {p : Pos}
    (F : DFn X.prog X.w X.K X.mg X.base k f fd ps dsp) (hr : Room k X.A) (hgd : X.A.guards = some []) (hg : Gl X x) (hm : X.mg x = some (.ref f)) (hk : PySem.W.keepIn X.K (.ref f) = true) (hb : Binds X.K fd ps ds) (hd : Vals dvs ds) (hdv : ∀ (F : Hp) (α : List Addr), Paired (VOk X.prog X.w X.K F α) dvs dds)
    (ha : DA X (e :: es) da) (hdb : (x == ("__debug__" : Str)) = false := by decide) (he : starEach (e :: es) X.env = (false, eval e X.env) :: starEach es X.env := by rfl) (hpl : (backTo pos (starEach es X.env)).any (·.1) = false := by rfl) :
    DE X (.Call (.Name x p) (e :: es) [] pos) (dCallX dsp dds da) := by
  obtain ⟨t, a1, a2⟩ := ha.ex
  exact ⟨_, pe_callG (E := fun _ _ _ => False) F.fn hr hgd hg hm hk hb hd pass0 a1 hdb he hpl, snd_call a2 hdv⟩
theorem de_call0X {k : Nat} {f : Addr} {fd : FuncData} {ps : List Str} {dsp : DSp} {ds : List Value} {dvs : List V} {dds : List DV} {x : Str} {p : Pos}
    (F : DFn X.prog X.w X.K X.mg X.base k f fd ps dsp) (hr : Room k X.A) (hgd : X.A.guards = some []) (hg : Gl X x) (hm : X.mg x = some (.ref f)) (hk : PySem.W.keepIn X.K (.ref f) = true) (hb : Binds X.K fd ps ds) (hd : Vals dvs ds) (hdv : ∀ (F : Hp) (α : List Addr), Paired (VOk X.prog X.w X.K F α) dvs dds)
    (hdb : (x == ("__debug__" : Str)) = false := by decide) : DE X (.Call (.Name x p) [] [] pos) (dCallX dsp dds dNil) :=
  ⟨_, pe_call0G (E := fun _ _ _ => False) F.fn hr hgd hg hm hk hb hd pass0 hdb, snd_call snd_nil hdv⟩
end
/-- in place of an argument that stands by the kit's module: DI for the items of a walk, whatever it is -/
theorem dfn_len {P : Program} {w : World} {K : PySem.W.Frag} {mg : Str → Option Value} {base : Heap} {x qual : Str} {st : Stmt} {f : Addr} {fd : FuncData} {N ps : List Str} {k : Nat} {dsp : DSp} {dt : DTS} (F : Fun K x qual st f fd) (S : FnScope N ps (defScope st)) (len : ∀ ds μ R, dsp ds μ R → ds.length = ps.length)
    (hb : ∀ (cdv : Value) (A : Around) (outer : List Env) (s : Shared) (H : Hp) (E : XK), Room k (A.deeper (envOfC qual (defScope st) s.heap.objs.size f cdv)) → A.guards = some [] → DSs (ctxD P w K mg base N qual (defScope st) f cdv A outer s H E) (defBody st) dt)
    (go : ∀ ds μ R, dsp ds μ R → dt { nx := fun S => R dN S.μ, rt := fun d S => R d S.μ } ⟨ds.map some ++ List.replicate (N.length - ds.length) none, μ⟩) : DFn P w K mg base (k + 1) f fd ps dsp :=
  dfn_of F S len fun cdv A outer s H E hr hg => ⟨dt, hb cdv A outer s H E hr hg, go⟩
end DL

set_option Elab.async false
set_option linter.all false
set_option maxRecDepth 100000
set_option autoImplicit false
set_option maxHeartbeats 2000000
namespace DL
open PySem PySem.Spec L2 PyProof.Rows

/-! ## the readings, run: one rule for each word, from the goal backwards -/
def IsB (x : DV) (R : Bool → DSt → Prop) (S : DSt) : Prop := ∃ b, x = dB b ∧ R b S
section
variable {P : Program} {w : World} {K : PySem.W.Frag} {S S' : DSt} {R : DV → DSt → Prop} {RB : Bool → DSt → Prop} {RA : List DV → DSt → Prop} {RS : DSt → Prop} {D : DEnds} {d x y : DV} {da db dc : DTE} {dt du : DTT} {dr : DTA} {g g' : D2} {g1 : D1} {ds du' : DTS} {i j : Nat} {b : Bool} {gc : DC1} {dg : DTG}
theorem r_isB (h : RB b S) : IsB (dB b) RB S := ⟨b, rfl, h⟩
theorem isB_of {x : DV} (h : IsB x RB S) : match x with | .imm (.bool b) => RB b S | _ => False := by
  obtain ⟨b, rfl, h⟩ := h
  exact h
theorem r_var (h : S.get i = some d) (k : R d S) : dVar i S R := by unfold dVar; rw [h]; exact k
theorem r_c (k : R d S) : dC d S R := k
theorem r_op (k : da S fun x S1 => db S1 fun y S2 => g x y S2 R) : dOp g da db S R := k
theorem r_un (k : da S fun x S1 => g1 x S1 R) : dUn g1 da S R := k
/-- a reading that gives more gives less too -/
def Mono (de : DTE) : Prop := ∀ S (R R' : DV → DSt → Prop), (∀ d S', R d S' → R' d S') → de S R → de S R'
end
/-! the continuation forms: the rest of the reading is put behind without asking that a reading be monotone -/
section
variable {P : Program} {w : World} {K : PySem.W.Frag} {S S' : DSt} {R : DV → DSt → Prop} {RB : Bool → DSt → Prop} {RA : List DV → DSt → Prop} {RS : DSt → Prop} {D : DEnds} {d x y : DV} {da db dc : DTE} {dt du : DTT} {dr : DTA} {g g' : D2} {g1 : D1} {ds du' : DTS} {i j : Nat} {b : Bool} {gc : DC1} {dg : DTG}
def kTest (R : Bool → DSt → Prop) : DV → DSt → Prop := fun x S1 => match x with
  | .imm (.bool b) => R b S1
  | _ => False
theorem r_test (k : da S (kTest RB)) : dTest da S RB := k
theorem r_kTest (k : RB b S) : kTest RB (dB b) S := k
theorem r_and (k : dt S fun b S1 => if b = true then du S1 RB else RB false S1) : dAnd dt du S RB := k
theorem r_or (k : dt S fun b S1 => if b = true then RB true S1 else du S1 RB) : dOr dt du S RB := k
theorem r_not (k : dt S fun b S1 => RB (!b) S1) : dNot dt S RB := k
theorem r_if (k : dt S fun b S1 => if b = true then da S1 R else db S1 R) : dIf dt da db S R := k
theorem r_andV (k : da S (kTest fun b S1 => if b = true then db S1 R else R (dB false) S1)) : dAndV da db S R := k
theorem r_orV (k : da S (kTest fun b S1 => if b = true then R (dB true) S1 else db S1 R)) : dOrV da db S R := k
theorem r_notV (k : da S (kTest fun b S1 => R (dB (!b)) S1)) : dNotV da S R := k
theorem r_chain (k : da S fun x S1 => db S1 fun y S2 => g x y S2 (kTest fun b S3 => if b = true then dc S3 fun u S4 => g' y u S4 R else R (dB false) S3)) : dChain g g' da db dc S R := k
theorem r_nil (k : RA [] S) : dNil S RA := k
theorem r_cons (k : da S fun x S1 => dr S1 fun xs S2 => RA (x :: xs) S2) : dCons da dr S RA := k
def kTup (R : DV → DSt → Prop) : List DV → DSt → Prop := fun ds S1 => ds.length ≤ sizeLine ∧ match allImm ds with
  | some ps => R (.imm (.tuple ps)) S1
  | none => False
theorem r_tup (k : dr S (kTup R)) : dTup dr S R := k
theorem r_kTup {es : List DV} {ps : List PyData} (e : allImm es = some ps) (hl : es.length ≤ sizeLine) (k : R (.imm (.tuple ps)) S) : kTup R es S := ⟨hl, by rw [e]; exact k⟩
def kLst (R : DV → DSt → Prop) : List DV → DSt → Prop := fun ds S1 => ds.length ≤ sizeLine ∧ match allImm ds with
  | some ps => R (.imm (.list ps)) S1
  | none => False
/-- a list display as data -/
theorem r_lst (k : dr S (kLst R)) : dLstX dr S R := .inl k
theorem r_kLst {es : List DV} {ps : List PyData} (e : allImm es = some ps) (hl : es.length ≤ sizeLine) (k : R (.imm (.list ps)) S) : kLst R es S := ⟨hl, by rw [e]; exact k⟩
def kLstC (R : DV → DSt → Prop) : List DV → DSt → Prop := fun ds S1 => ds.length ≤ sizeLine ∧ R (.cell S1.μ.length) (S1.new (.lst ds))
/-- .. as a cell -/
theorem r_lstC (k : dr S (kLstC R)) : dLstX dr S R := .inr k
theorem r_kLstC {es : List DV} (hl : es.length ≤ sizeLine) (k : R (.cell S.μ.length) (S.new (.lst es))) : kLstC R es S := ⟨hl, k⟩
theorem r_cb (k : dr S fun ds S1 => gc ds S1 R) : dCB gc dr S R := k
/-! ### operators -/
theorem r_cmp {f : Int → Int → Bool} {m n : Int} (k : R (dB (f m n)) S) : gCmp f (dI m) (dI n) S R := k
theorem r_add {m n : Int} (k : R (dI (m + n)) S) : gOr gAdd gAddC (dI m) (dI n) S R := .inl k
theorem r_addT {a c : List PyData} (hz : a.length + c.length ≤ sizeLine) (k : R (.imm (.tuple (a ++ c))) S) : gOr gAdd gAddC (.imm (.tuple a)) (.imm (.tuple c)) S R := .inl ⟨hz, k⟩
theorem r_sub {m n : Int} (k : R (dI (m - n)) S) : gSub (dI m) (dI n) S R := k
theorem r_mul {m n : Int} (h : MulOk m n) (k : R (dI (m * n)) S) : gOr gMul gMulC (dI m) (dI n) S R := .inl ⟨h, k⟩
theorem r_mod {m n : Int} (h : 0 < n) (k : R (dI (m % n)) S) : gMod (dI m) (dI n) S R := ⟨h, k⟩
theorem r_fdiv {m n : Int} (h : DivOk m n) (k : R (dI (m / n)) S) : gFdiv (dI m) (dI n) S R := ⟨h, k⟩
theorem r_neg {m : Int} (k : R (dI (-m)) S) : gNeg (dI m) S R := k
theorem r_isN {p : DV} {c : Bool} (h : isNone p = some c) (k : R (dB c) S) : gIsN p dN S R := by show match isNone p with | some b => R (dB b) S | none => False; rw [h]; exact k
theorem r_notN {p : DV} {c : Bool} (h : isNone p = some c) (k : R (dB (!c)) S) : gNotN p dN S R := by show match isNone p with | some b => R (dB (!b)) S | none => False; rw [h]; exact k
theorem r_isi {p : PyData} {c : String} (hc : c ∈ tyNames) (k : R (dB (isiT (tyI p) c)) S) : gIsi [.imm p, .raw (.ty c)] S R := ⟨hc, k⟩
theorem r_len {p : DV} {l : Bool} {es : List DV} (hd : S.dict p = none) (h : S.seq p = some (l, es)) (k : R (dI es.length) S) : gLenA [p] S R := by
  show match S.dict p with | some kvs => R (dI kvs.length) S | none => gLen [p] S R
  rw [hd]
  show match S.seq p with | some (_, es) => R (dI es.length) S | none => _
  rw [h]; exact k
/-- x[i] of a list or tuple -/
theorem r_at {p : DV} {l : Bool} {es : List DV} {n : Int} {e : DV} (hd : S.dict p = none) (h : S.seq p = some (l, es)) (hi : atI es n = some e) (k : R e S) : gAt p (dI n) S R := by
  unfold gAt
  rw [hd]
  show gIx p (dI n) S R
  unfold gIx
  rw [show (dI n).int? = some n from rfl]
  dsimp only
  rw [h]
  dsimp only
  rw [hi]; exact k
/-- d[k] -/
theorem r_atD {p q : DV} {kvs : List (Leaf × DV)} {l : Leaf} {e : DV} (hd : S.dict p = some kvs) (hk : keyOf q = some l) (hi : valG kvs l = some e) (k : R e S) : gAt p q S R := by
  unfold gAt
  rw [hd, hk]
  show match valG kvs l with | some d => R d S | none => False
  rw [hi]; exact k
theorem r_min {m n : Int} {f : Int → Int → Int} (k : R (dI (f m n)) S) : gII2 f [dI m, dI n] S R := k
theorem r_bools {f : List Bool → Bool} {p : DV} {es : List DV} {bs : List Bool} (h : S.seq p = some (true, es)) (hb : allB es = some bs) (k : R (dB (f bs)) S) : gBools f [p] S R := by
  unfold gBools
  dsimp only
  rw [h]
  dsimp only
  rw [hb]; exact k
theorem r_repr {p : PyData} (h : CanShow p) (k : R (dS p.shown) S) : gRepr [.imm p] S R := ⟨h, k⟩
/-! ### calls that take and give data -/
def bareP : List DV → Bool := fun ds => ds.all DV.bare
theorem ren_bare : ∀ {es : List DV}, bareP es = true → renDs [] es = some es
  | [], _ => rfl
  | e :: es, h => by
    have h' : (e.bare && bareP es) = true := h
    rw [Bool.and_eq_true] at h'
    have i := ren_bare h'.2
    show (match renD [] e, renDs [] es with | some d', some r' => some (d' :: r') | _, _ => none) = _
    rw [i]
    cases e with
    | cell _ => exact absurd h'.1 Bool.false_ne_true
    | _ => rfl
theorem r_call {dsp : DSp} {dds : List DV} (k : dr S fun es S1 => ∃ ks, kCall dsp R (es ++ dds) S1 ks) : dCallX dsp dds dr S R := k
/-- what a call gives back -/
def retK (R : DV → DSt → Prop) (S1 : DSt) (ks : List Nat) : DV → List (Option DO) → Prop := fun d μ' => match d with
  | .cell j => if h : j < ks.length then R (.cell ks[j]) ⟨S1.ρ, backs S1.μ ks μ'⟩ else match μ'[j]? with
    | some (some o) => if o.bare = true then R (.cell S1.μ.length) ⟨S1.ρ, backs S1.μ ks μ' ++ [some o]⟩ else False
    | _ => False
  | d => R d ⟨S1.ρ, backs S1.μ ks μ'⟩
/-- a call that takes data -/
theorem r_callI {dsp : DSp} {es : List DV} (hb : bareP es = true) (k : dsp es [] (retK R S [])) : ∃ ks, kCall dsp R (es ++ []) S ks := ⟨[], by
  unfold kCall
  rw [List.append_nil, ren_bare hb]
  exact ⟨List.nodup_nil, (fun _ h => nomatch h), k⟩⟩
theorem r_retI {p : PyData} {μ' : List (Option DO)} (k : R (.imm p) S) : retK R S [] (.imm p) μ' := k
/-! ### statements -/
theorem r_seq (k : ds { D with nx := fun S1 => du' D S1 } S) : dSeq ds du' D S := k
theorem r_asg (k : da S fun d S1 => dg (.one d) S1 D.nx) : dAsg da dg D S := k
theorem r_gn (k : RS (S.set i d)) : dgName i (.one d) S RS := k
theorem r_gtwo (k : RS ((S.set i x).set j y)) : dgTwo i j (.two x y) S RS := k
theorem r_drop (k : da S fun _ S1 => D.nx S1) : dDrop da D S := k
theorem r_ret (k : da S fun d S1 => D.rt d S1) (hm : Mono da) : dRetW P w K da D S := hm S _ _ (fun d S1 q => ⟨d, S1, .refl, q⟩) k
def kRet (P : Program) (w : World) (K : PySem.W.Frag) (D : DEnds) : DV → DSt → Prop := fun d S1 => ∃ d' S', Wk P w K d S1 d' S' ∧ D.rt d' S'
theorem r_retK (k : da S (kRet P w K D)) : dRetW P w K da D S := k
theorem r_kRet (k : D.rt d S) : kRet P w K D d S := ⟨d, S, .refl, k⟩
theorem r_ifS (k : dt S fun b S1 => if b = true then ds D S1 else du' D S1) : dIfS dt ds du' D S := k
theorem r_yes (k : RB true S) : dYes S RB := k
theorem r_next (k : D.nx S) : dNext D S := k
theorem r_brk (k : D.bk S) : dBreak D S := k
theorem r_cont (k : D.ct S) : dCont D S := k
theorem r_ite {A B : Prop} {b : Bool} (h1 : b = true → A) (h2 : b = false → B) : if b = true then A else B := by
  cases b with
  | true => exact h1 rfl
  | false => exact h2 rfl
theorem r_iteT {A B : Prop} {b : Bool} (h : b = true) (k : A) : if b = true then A else B := by rw [if_pos h]; exact k
theorem r_iteF {A B : Prop} {b : Bool} (h : b = false) (k : B) : if b = true then A else B := by rw [h]; exact k
end
/-! ### walks -/
section
variable {P : Program} {w : World} {K : PySem.W.Frag} {S S' : DSt} {R : DV → DSt → Prop} {RI : List DY → (DSt → Prop) → DSt → Prop} {D : DEnds} {d x y : DV} {da db de dk dv' : DTE} {dt : DTT} {dr : DTA} {dg : DTG} {di : DTI} {ds : DTS} {vs : List Nat} {RL : List PyData → DSt → Prop} {RD : List (Leaf × DV) → DSt → Prop}
def kAny (RI : List DY → (DSt → Prop) → DSt → Prop) : DV → DSt → Prop := fun d S1 => match S1.items d with
  | some (es, Sy) => RI (es.map DY.one) Sy S1
  | none => False
theorem r_iAny (k : da S (kAny RI)) : diAny da S RI := k
theorem r_kAny {es : List DV} {St : DSt → Prop} (h : S.items d = some (es, St)) (k : RI (es.map DY.one) St S) : kAny RI d S := by unfold kAny; rw [h]; exact k
def kR1 (RI : List DY → (DSt → Prop) → DSt → Prop) : List DV → DSt → Prop := fun ds S1 => match ds with
  | [d] => match d.int? with
    | some j => (-(2 ^ 62) ≤ j ∧ j < 2 ^ 62) ∧ RI (rangeD 0 j.toNat) (fun _ => True) S1
    | none => False
  | _ => False
theorem r_iR1 (k : dr S (kR1 RI)) : diRange1 dr S RI := k
theorem r_kR1 {j : Int} (h : -(2 ^ 62) ≤ j ∧ j < 2 ^ 62) (k : RI (rangeD 0 j.toNat) (fun _ => True) S) : kR1 RI [dI j] S := ⟨h, k⟩
def kR2 (RI : List DY → (DSt → Prop) → DSt → Prop) : List DV → DSt → Prop := fun ds S1 => match ds with
  | [c, d] => match c.int?, d.int? with
    | some i, some j => (-(2 ^ 62) ≤ i ∧ i < 2 ^ 62 ∧ -(2 ^ 62) ≤ j ∧ j < 2 ^ 62) ∧ RI (rangeD i (j - i).toNat) (fun _ => True) S1
    | _, _ => False
  | _ => False
theorem r_iR2 (k : dr S (kR2 RI)) : diRange2 dr S RI := k
theorem r_kR2 {i j : Int} (h : -(2 ^ 62) ≤ i ∧ i < 2 ^ 62 ∧ -(2 ^ 62) ≤ j ∧ j < 2 ^ 62) (k : RI (rangeD i (j - i).toNat) (fun _ => True) S) : kR2 RI [dI i, dI j] S := ⟨h, k⟩
def kEn (RI : List DY → (DSt → Prop) → DSt → Prop) : List DV → DSt → Prop := fun ds S1 => match ds with
  | [.imm p] => match S1.seq (.imm p) with
    | some (_, es) => RI (enumD es) (fun _ => True) S1
    | none => False
  | _ => False
theorem r_iEn (k : dr S (kEn RI)) : diEnum dr S RI := k
theorem r_kEn {p : PyData} {l : Bool} {es : List DV} (h : S.seq (.imm p) = some (l, es)) (k : RI (enumD es) (fun _ => True) S) : kEn RI [.imm p] S := by show match S.seq (.imm p) with | some (_, es) => RI (enumD es) (fun _ => True) S | none => False; rw [h]; exact k
/-- a for loop, what is walked being known -/
def ForK (dg : DTG) (db : DTS) (D : DEnds) (ys : List DY) (St : DSt → Prop) (S1 : DSt) : Prop := ∃ I : Nat → DSt → Prop, I 0 S1 ∧ (∀ i S2, i ≤ ys.length → I i S2 → St S2) ∧
  (∀ i y S2, ys[i]? = some y → I i S2 → dg y S2 fun S3 => db { D with nx := I (i + 1), ct := I (i + 1), bk := D.nx } S3) ∧ ∀ S2, I ys.length S2 → D.nx S2
theorem r_for (k : di S (ForK dg ds D)) : dFor di dg ds D S := k
def LcK (dg : DTG) (dt : DTT) (de : DTE) (vs : List Nat) (R : List PyData → DSt → Prop) (ys : List DY) (St : DSt → Prop) (S1 : DSt) : Prop := ∃ I : Nat → List PyData → List (Option DO) → Prop, I 0 [] S1.μ ∧ (∀ i acc μ, i ≤ ys.length → I i acc μ → St ⟨wipeD S1.ρ vs, μ⟩) ∧
  (∀ i y acc μ, ys[i]? = some y → I i acc μ → dg y ⟨wipeD S1.ρ vs, μ⟩ fun S3 => dt S3 fun b S4 => if b = true then de S4 fun d S5 => match d.imm? with
    | some p => I (i + 1) (acc ++ [p]) S5.μ
    | none => False else I (i + 1) acc S4.μ) ∧ ys.length < sizeLine ∧ ∀ acc μ, I ys.length acc μ → R acc ⟨S1.ρ, μ⟩
/-- a list comprehension as data -/
theorem r_lc (k : di S (LcK dg dt de vs fun acc S1 => R (.imm (.list acc)) S1)) : dLcX di dg dt de vs S R := .inl k
/-- .. as a cell -/
theorem r_lcC (k : di S (LcK dg dt de vs fun acc S1 => R (.cell S1.μ.length) (S1.new (.lst (acc.map DV.imm))))) : dLcX di dg dt de vs S R := .inr k
/-- a comprehension that changes nothing: what each turn gives -/
theorem lc_run {ys : List DY} {St : DSt → Prop} (hSt : ∀ S, St S) (hl : ys.length < sizeLine) (p : DY → Bool) (f : DY → PyData)
    (step : ∀ y, y ∈ ys → ∀ N : Option PyData → List (Option DO) → Prop, N (if p y = true then some (f y) else none) S.μ → dg y ⟨wipeD S.ρ vs, S.μ⟩ fun S3 => dt S3 fun b S4 => if b = true then de S4 fun d S5 => match d.imm? with
      | some q => N (some q) S5.μ
      | none => False else N none S4.μ)
    (k : RL ((ys.filter p).map f) S) : LcK dg dt de vs RL ys St S := by
  refine ⟨fun i acc μ => acc = ((ys.take i).filter p).map f ∧ μ = S.μ, ⟨rfl, rfl⟩, fun _ _ _ _ _ => hSt _, ?_, hl, ?_⟩
  · rintro i y acc μ hy ⟨rfl, rfl⟩
    have ht : ys.take (i + 1) = ys.take i ++ [y] := by rw [List.take_add_one, hy]; rfl
    refine step y (List.mem_of_getElem? hy) (fun o μ => match o with
      | some q => ((ys.take i).filter p).map f ++ [q] = ((ys.take (i + 1)).filter p).map f ∧ μ = S.μ
      | none => ((ys.take i).filter p).map f = ((ys.take (i + 1)).filter p).map f ∧ μ = S.μ) ?_
    rw [ht, List.filter_append, List.map_append]
    by_cases c : p y = true
    · rw [if_pos c]
      simp [List.filter_cons, c]
    · rw [if_neg c]
      simp [List.filter_cons, c]
  · rintro acc μ ⟨rfl, rfl⟩
    rw [List.take_length]
    exact k
def DcKK (dg : DTG) (dt : DTT) (dk dv' : DTE) (vs : List Nat) (R : List (Leaf × DV) → DSt → Prop) (ys : List DY) (St : DSt → Prop) (S1 : DSt) : Prop := ∃ I : Nat → List (Leaf × DV) → List (Option DO) → Prop, I 0 [] S1.μ ∧ (∀ i acc μ, i ≤ ys.length → I i acc μ → St ⟨wipeD S1.ρ vs, μ⟩) ∧
  (∀ i y acc μ, ys[i]? = some y → I i acc μ → dg y ⟨wipeD S1.ρ vs, μ⟩ fun S3 => dt S3 fun b S4 => if b = true then dk S4 fun kd S5 => dv' S5 fun d S6 => match intKey kd with
    | some k => I (i + 1) (putG acc (lfK k) d) S6.μ
    | none => False else I (i + 1) acc S4.μ) ∧ ys.length < sizeLine ∧ ∀ acc μ, I ys.length acc μ → R acc ⟨S1.ρ, μ⟩
theorem r_dc (k : di S (DcKK dg dt dk dv' vs fun acc S1 => R (.cell S1.μ.length) (S1.new (.dic acc)))) : dDcC di dg dt dk dv' vs S R := k
end

end DL

set_option Elab.async false
set_option linter.all false
set_option maxRecDepth 100000
set_option autoImplicit false
set_option maxHeartbeats 2000000
namespace DL
open PySem PySem.Spec L2 PyProof.Rows

/-! ## cells frozen all at once: what hangs on them is data from now on -/
mutual
inductive FzD (S : DSt) (fz : List Nat) : DV → PyData → Prop
  | imm (d : PyData) : FzD S fz (.imm d) d
  | lst {k : Nat} {ds : List DV} {ps : List PyData} : k ∈ fz → S.cell k = some (.lst ds) → FzAll S fz ds ps → FzD S fz (.cell k) (.list ps)
  | dic {k : Nat} {kvs : List (Leaf × DV)} {qs : List (PyData × PyData)} : k ∈ fz → S.cell k = some (.dic kvs) → qs.map (·.1) = kvs.map (fun p => kvD p.1) → FzAll S fz (kvs.map (·.2)) (qs.map (·.2)) → FzD S fz (.cell k) (.dict qs)
inductive FzAll (S : DSt) (fz : List Nat) : List DV → List PyData → Prop
  | nil : FzAll S fz [] []
  | cons {d : DV} {ds : List DV} {p : PyData} {ps : List PyData} : FzD S fz d p → FzAll S fz ds ps → FzAll S fz (d :: ds) (p :: ps)
end
theorem FzAll.imm {S : DSt} {fz : List Nat} : ∀ ps : List PyData, FzAll S fz (ps.map DV.imm) ps
  | [] => .nil
  | p :: ps => .cons (.imm p) (FzAll.imm ps)
/-- the cells fz are not known any more -/
def DSt.less (S : DSt) (fz : List Nat) : DSt := ⟨S.ρ, S.μ.mapIdx fun i o => if i ∈ fz then none else o⟩
open Classical in
/-- the fixed part with the cells fz in it -/
noncomputable def fixF (F H : Hp) (α : List Addr) (fz : List Nat) : Hp := fun b => if ∃ k ∈ fz, α[k]? = some b then H b else F b
section
variable {P : Program} {w : World} {K : PySem.W.Frag} {S : DSt} {d : DV} {p : PyData} {fz : List Nat} {B : Bs} {σ : L2.St} {ts : List (V × DV)} {H F : Hp} {α : List Addr}
theorem fixF_in {k : Nat} {b : Addr} (hk : k ∈ fz) (hb : α[k]? = some b) : fixF F H α fz b = H b := if_pos ⟨k, hk, hb⟩
theorem fixF_ex (h : StAt P w K B S σ ts H F α) : Ex F (fixF F H α fz) := fun b o e => by
  unfold fixF
  split
  · exact h.fh b o e
  · exact e
mutual
theorem fz_rp (h : StAt P w K B S σ ts H F α) : ∀ {d : DV} {p : PyData} {v : V}, FzD S fz d p → VOk P w K F α v d → Rp P w K (fixF F H α fz) v p
  | _, _, _, .imm _, hv => Rp.up (fixF_ex h) hv
  | _, _, _, .lst hk hc ha, hv => by
    obtain ⟨a, a1, rfl⟩ := hv
    obtain ⟨a', g1, _, xs, g3, g4⟩ := h.ce _ _ (cell_get hc)
    cases a1.symm.trans g1
    exact .lst ((fixF_in hk a1).trans g3) (fz_all h ha g4)
  | _, _, _, .dic hk hc hq ha, hv => by
    obtain ⟨a, a1, rfl⟩ := hv
    obtain ⟨a', g1, _, xs, g3, g4⟩ := h.ce _ _ (cell_get hc)
    cases a1.symm.trans g1
    have g5 : Paired (KVOk P w K F α) xs _ := g4
    refine .dic ((fixF_in hk a1).trans g3) ?_ ?_
    · rw [hq]
      have e := pair_keys g5
      have e2 := congrArg (List.map kvD) e
      rw [List.map_map, List.map_map] at e2
      exact e2.symm
    · have g6 : ∀ {xs : List (Leaf × V)} {es : List (Leaf × DV)}, Paired (KVOk P w K F α) xs es → Paired (VOk P w K F α) (xs.map (·.2)) (es.map (·.2)) := by
        intro xs es q
        induction q with
        | nil => exact .nil
        | cons q _ ih => exact .cons q.2 ih
      exact fz_all h ha (g6 g5)
theorem fz_all (h : StAt P w K B S σ ts H F α) : ∀ {ds : List DV} {ps : List PyData} {vs : List V}, FzAll S fz ds ps → Paired (VOk P w K F α) vs ds → RpAll P w K (fixF F H α fz) vs ps
  | _, _, _, .nil, hv => by cases hv; exact .nil
  | _, _, _, .cons a b, hv => by
    cases hv with
    | cons h1 h2 => exact .cons (fz_rp h a h1) (fz_all h b h2)
end
/-- THE RULE: d is data from now on, the cells fz go into the fixed part -/
theorem Wk.fix (fz : List Nat) (hp : FzD S fz d p) : Wk P w K d S (.imm p) (S.less fz) := fun B σ ts H v F α h hv => by
  have e := fixF_ex (fz := fz) h
  refine ⟨fixF F H α fz, ⟨fun b o q => ?_, h.bh, h.bf.trans e, fun b o q1 q2 q3 => ?_, h.bp, h.bn, h.nd, ?_, h.an, h.len, fun i d0 q => ?_, fun q hq => (h.tm q hq).up0 e, fun k u q => ?_⟩, fz_rp h hp hv, e⟩
  · unfold fixF at q
    split at q
    · exact q
    · exact h.fh b o q
  · obtain ⟨h1, h2, h3⟩ := h.bc b o q1 q2 q3
    refine ⟨h1, ?_, h3⟩
    unfold fixF
    rw [if_neg]
    · exact h2
    · rintro ⟨k, _, hk⟩
      exact h3 (List.mem_of_getElem? hk)
  · show α.length = (S.μ.mapIdx _).length
    rw [List.length_mapIdx]; exact h.al
  · obtain ⟨v0, h1, h2⟩ := h.sl i d0 q
    exact ⟨v0, h1, h2.up0 e⟩
  · have q' : (S.μ.mapIdx fun i o => if i ∈ fz then none else o)[k]? = some (some u) := q
    rw [List.getElem?_mapIdx] at q'
    cases q2 : S.μ[k]? with
    | none => rw [q2] at q'; cases q'
    | some u0 =>
      rw [q2] at q'
      have q3 : (if k ∈ fz then none else u0) = some u := Option.some.inj q'
      by_cases c : k ∈ fz
      · rw [if_pos c] at q3; cases q3
      · rw [if_neg c] at q3
        subst q3
        obtain ⟨a, g1, g2, g3⟩ := h.ce k u q2
        refine ⟨a, g1, ?_, g3.up0 e rfl⟩
        unfold fixF
        rw [if_neg]
        · exact g2
        · rintro ⟨j, hj, ej⟩
          have i1 := List.getElem?_eq_some_iff.mp g1
          have i2 := List.getElem?_eq_some_iff.mp ej
          have : j = k := (List.getElem_inj h.nd).mp (i2.2.trans i1.2.symm)
          exact c (this ▸ hj)
theorem r_kFix {D : DEnds} (fz : List Nat) (hp : FzD S fz d p) (k : D.rt (.imm p) (S.less fz)) : kRet P w K D d S := ⟨_, _, .fix fz hp, k⟩
theorem nodup_le {D : Type} [DecidableEq D] : ∀ {ks xs : List D}, ks.Nodup → (∀ k ∈ ks, k ∈ xs) → ks.length ≤ xs.length
  | [], _, _, _ => Nat.zero_le _
  | k :: ks, xs, h, hm => by
    rw [List.nodup_cons] at h
    have hk : k ∈ xs := hm k List.mem_cons_self
    have ih := nodup_le (ks := ks) (xs := xs.erase k) h.2 fun j hj => by
      have hne : j ≠ k := fun e => h.1 (e ▸ hj)
      exact (List.mem_erase_of_ne hne).mpr (hm j (List.mem_cons_of_mem _ hj))
    rw [List.length_erase_of_mem hk] at ih
    have hpos : 0 < xs.length := List.length_pos_of_mem hk
    rw [List.length_cons]
    omega
end
/-! ### cells, run -/
section
variable {S : DSt} {R : DV → DSt → Prop} {k : Nat} {es fs : List DV} {kvs : List (Leaf × DV)} {do' : DTE} {da : DTA} {T : String} {g : DM} {x y : DV}
theorem seq_cell (h : S.cell k = some (.lst es)) : S.seq (.cell k) = some (true, es) := by
  show (match S.cell k with | some (.lst ds) => some (true, ds) | _ => none) = _
  rw [h]
theorem lst_cell (h : S.cell k = some (.lst es)) : S.lst (.cell k) = some es := by
  show (match S.cell k with | some (.lst ds) => some ds | _ => none) = _
  rw [h]
theorem nodict_cell (h : S.cell k = some (.lst es)) : S.dict (.cell k) = none := by
  show (match S.cell k with | some (.dic kvs) => some kvs | _ => none) = _
  rw [h]
theorem dict_cell (h : S.cell k = some (.dic kvs)) : S.dict (.cell k) = some kvs := by
  show (match S.cell k with | some (.dic kvs) => some kvs | _ => none) = _
  rw [h]
theorem items_cell (h : S.cell k = some (.lst es)) : S.items (.cell k) = some (es, fun S' => S'.cell k = some (.lst es)) := by
  unfold DSt.items
  dsimp only
  rw [h]
def kM (T : String) (g : DM) (da : DTA) (R : DV → DSt → Prop) : DV → DSt → Prop := fun x S1 => isM S1 T x ∧ da S1 fun ds S2 => g x ds S2 R
def kM0 (T : String) (g : DM) (R : DV → DSt → Prop) : DV → DSt → Prop := fun x S1 => isM S1 T x ∧ g x [] S1 R
theorem r_bm (h : do' S (kM T g da R)) : dBM T g do' da S R := h
theorem r_bm0 (h : do' S (kM0 T g R)) : dBM0 T g do' S R := h
theorem r_kM (e : S.cell k = some (.lst es)) (h : da S fun ds S2 => g (.cell k) ds S2 R) : kM "list" g da R (.cell k) S := ⟨.inl ⟨rfl, es, seq_cell e⟩, h⟩
theorem r_kM0 (e : S.cell k = some (.lst es)) (h : g (.cell k) [] S R) : kM0 "list" g R (.cell k) S := ⟨.inl ⟨rfl, es, seq_cell e⟩, h⟩
theorem r_append (e : S.cell k = some (.lst es)) (hz : es.length < sizeLine) (h : R dN (S.put k (.lst (es ++ [y])))) : gAppend (.cell k) [y] S R := by
  show match S.cell k with | some (.lst es) => es.length < sizeLine ∧ R dN (S.put k (.lst (es ++ [y]))) | _ => False
  rw [e]; exact ⟨hz, h⟩
theorem r_extend (e : S.cell k = some (.lst es)) (e2 : S.lst y = some fs) (hz : es.length + fs.length ≤ sizeLine) (h : R dN (S.put k (.lst (es ++ fs)))) : gExtend (.cell k) [y] S R := by
  unfold gExtend
  dsimp only
  rw [e, e2]; exact ⟨hz, h⟩
end
/-! ### == of ints, of texts -/
section
variable {S : DSt} {R : DV → DSt → Prop} {m n : Int} {x y : Str}
theorem r_eqI (h : R (dB (m == n)) S) : gEqX (dI m) (dI n) S R := ⟨by simp [SeqAt.shaped, PyData.canLay0, PyData.depth], by simpa only [PyData.eqv] using h⟩
theorem r_neI (h : R (dB (!(m == n))) S) : gNeX (dI m) (dI n) S R := ⟨by simp [SeqAt.shaped, PyData.canLay0, PyData.depth], by simpa only [PyData.eqv] using h⟩
theorem r_eqS (h : R (dB (decide (x = y))) S) : gEqX (dS x) (dS y) S R := h
theorem r_neS (h : R (dB (!decide (x = y))) S) : gNeX (dS x) (dS y) S R := h
theorem r_eqL {a b : DV} {p q : PyData} (n1 : a.str? = none) (e1 : S.dat a = some p) (e2 : S.dat b = some q) (h : (SeqAt.shaped p && SeqAt.shaped q) = true) (k : R (dB (PyData.eqv p q)) S) : gEqX a b S R := by
  unfold gEqX
  rw [n1]
  dsimp only
  rw [e1, e2]
  exact ⟨h, k⟩
theorem r_neL {a b : DV} {p q : PyData} (n1 : a.str? = none) (e1 : S.dat a = some p) (e2 : S.dat b = some q) (h : (SeqAt.shaped p && SeqAt.shaped q) = true) (k : R (dB (!PyData.eqv p q)) S) : gNeX a b S R := by
  unfold gNeX
  rw [n1]
  dsimp only
  rw [e1, e2]
  exact ⟨h, k⟩
theorem r_eq {p q : PyData} (hs : ∀ z, p ≠ .str z) (h : (SeqAt.shaped p && SeqAt.shaped q) = true) (k : R (dB (PyData.eqv p q)) S) : gEqX (.imm p) (.imm q) S R := by
  unfold gEqX
  cases p with
  | str z => exact absurd rfl (hs z)
  | _ => exact ⟨h, k⟩
theorem r_ne {p q : PyData} (hs : ∀ z, p ≠ .str z) (h : (SeqAt.shaped p && SeqAt.shaped q) = true) (k : R (dB (!PyData.eqv p q)) S) : gNeX (.imm p) (.imm q) S R := by
  unfold gNeX
  cases p with
  | str z => exact absurd rfl (hs z)
  | _ => exact ⟨h, k⟩
end
/-! ### set(t), sorted(set(t)), run -/
section
variable {w : World} {S : DSt} {R : DV → DSt → Prop}
theorem r_setT {x : DV} {es : List DV} {ns : List Int} (h : S.seq x = some (false, es)) (hn : allI es = some ns) (hz : ns.length + 1 < scanBound) (k : ∀ ks : List Int, ks.Nodup → (∀ k, k ∈ ks ↔ k ∈ ns) → R (.obj fun b => SetO w b (fun j => decide (j ∈ ns)) ks.length) S) : gSetT w [x] S R := by
  unfold gSetT
  dsimp only
  rw [h]
  dsimp only
  rw [hn]
  exact ⟨hz, k⟩
theorem r_sortedSet {f : Int → Bool} {c : Nat} (hc : c < 64) (k : ∀ ns : List Int, ns.Pairwise (· < ·) → (∀ k, k ∈ ns ↔ f k = true) → ns.length = c → R (.imm (.list (ns.map .int))) S) : gSortedSet w [.obj fun b => SetO w b f c] S R := ⟨f, c, rfl, hc, k⟩
end
end DL

set_option Elab.async false
set_option linter.all false
set_option maxRecDepth 100000
set_option autoImplicit false
set_option maxHeartbeats 2000000
namespace DL
open PySem PySem.Spec L2 PyProof.Rows

/-! ## one of two ways -/
theorem PE.or' {X : Cx} {e : Expr} {t t' : TE} (h : PE X e t) (h' : PE X e t') : PE X e (fun σ H Q => t σ H Q ∨ t' σ H Q) := ⟨fun pins s σ H Q I q => by
  rcases q with q | q
  · exact h.run pins s σ H Q I q
  · exact h'.run pins s σ H Q I q⟩
theorem DE.or {X : Cx} {e : Expr} {d d' : DTE} (h : DE X e d) (h' : DE X e d') : DE X e (dOrE d d') := by
  obtain ⟨t, a1, a2⟩ := h.ex
  obtain ⟨t', b1, b2⟩ := h'.ex
  exact ⟨_, PE.or' a1 b1, fun B S σ ts H R Q o hd k => by
    rcases hd with hd | hd
    · exact .inl (a2 B S σ ts H R Q o hd k)
    · exact .inr (b2 B S σ ts H R Q o hd k)⟩

/-! ## tuple(x), list(x) -/
def gTupOf : DC1 := fun ds S R => match ds with
  | [x] => match S.seq x with
    | some (true, es) => match allImm es with
      | some ps => R (.imm (.tuple ps)) S
      | none => False
    | some (false, _) => R x S
    | none => False
  | _ => False
section
variable {X : Cx}
theorem cd_tup : CallD X (.type "tuple") gTupOf := ⟨_, call_tupZ, fun B S σ ts H xs ds R Q hl h hd k => by
  match ds, hd with
  | [x], hd =>
    match xs, hl with
    | [y], _ =>
      obtain ⟨F, α, h⟩ := h
      have h1 := h.tm (y, x) (by simp)
      have hd' : match S.seq x with
        | some (true, es) => match allImm es with
          | some ps => R (.imm (.tuple ps)) S
          | none => False
        | some (false, _) => R x S
        | none => False := hd
      split at hd'
      · rename_i es e
        obtain ⟨p, ys, rfl, hq, hp⟩ := h.seq h1 e
        split at hd'
        · rename_i ps e2
          exact .inl ⟨p, ys, rfl, hq, fun q ob hq ho => k _ _ S _ hd' ((h.sub memA).newTup hq ho (imms e2 hp)).ok⟩
        · exact hd'.elim
      · rename_i es e
        obtain ⟨p, ys, rfl, hq, hp⟩ := h.seq h1 e
        exact .inr ⟨p, ys, rfl, hq, k _ _ S H hd' ((h.sub memA).add h1).ok⟩
      · exact hd'.elim⟩
def gListOf : DC1 := fun ds S R => match ds with
  | [x] => match S.seq x with
    | some (_, es) => (match allImm es with
      | some ps => R (.imm (.list ps)) S
      | none => False) ∨ R (.cell S.μ.length) (S.new (.lst es))
    | none => False
  | _ => False
theorem cd_list : CallD X (.type "list") gListOf := ⟨_, call_list_of, fun B S σ ts H xs ds R Q hl h hd k => by
  match ds, hd with
  | [x], hd =>
    match xs, hl with
    | [y], _ =>
      obtain ⟨F, α, h⟩ := h
      have h1 := h.tm (y, x) (by simp)
      have hd' : match S.seq x with
        | some (_, es) => (match allImm es with
          | some ps => R (.imm (.list ps)) S
          | none => False) ∨ R (.cell S.μ.length) (S.new (.lst es))
        | none => False := hd
      split at hd'
      · rename_i b es e
        obtain ⟨p, ys, rfl, hq, hp⟩ := h.seq h1 e
        refine ⟨p, ys, rfl, ?_, fun l hn => ?_⟩
        · cases b with
          | true => exact .inl hq
          | false => exact .inr hq
        · rcases hd' with hd' | hd'
          · split at hd'
            · rename_i ps e2
              exact k _ _ S _ hd' ((h.sub memA).newLst hn (imms e2 hp)).ok
            · exact hd'.elim
          · exact k _ _ _ _ hd' ((h.sub memA).newCell hn hp).ok
      · exact hd'.elim⟩
/-! ### of ranges -/
def rgD (a b : Int) : List PyData := (List.range (b - a).toNat).map fun (i : Nat) => .int (a + (i : Int))
theorem rgD_len (a b : Int) : (rgD a b).length = (b - a).toNat := by unfold rgD; rw [List.length_map, List.length_range]
theorem rp_rg {P : Program} {w : World} {K : PySem.W.Frag} {F : Hp} (a b : Int) : RpAll P w K F (rgV a b) (rgD a b) := by
  unfold rgV rgD
  generalize List.range (b - a).toNat = zs
  induction zs with
  | nil => exact .nil
  | cons z zs ih => exact .cons (.int _) ih
abbrev DTR := DSt → (Int → Int → DSt → Prop) → Prop
structure DR (X : Cx) (e : Expr) (dr : DTR) : Prop where
  ex : ∃ t, PRg X e t ∧ ∀ (B : Bs) (S : DSt) (σ : L2.St) (ts : List (V × DV)) (H : Hp) (R : Int → Int → DSt → Prop) (Q : Int → Int → Hp → Prop), StOk X.prog X.w X.K B S σ ts H → dr S R →
    (∀ a b S' H', R a b S' → StOk X.prog X.w X.K B S' σ ts H' → Q a b H') → t σ H Q
def dRg1 (da : DTE) : DTR := fun S R => da S fun x S1 => match x.int? with
  | some j => R 0 j S1
  | none => False
def dRg2 (da db : DTE) : DTR := fun S R => da S fun x S1 => db S1 fun y S2 => match x.int?, y.int? with
  | some i, some j => R i j S2
  | _, _ => False
variable {a b e : Expr} {da db : DTE} {dr : DTR} {p pos : Pos}
theorem dr_1 (hg : Gl X "range") (hm : X.mg "range" = none) (ha : DE X a da) (na : starEach [a] X.env = (false, eval a X.env) :: starEach [] X.env := by rfl) : DR X (.Call (.Name "range" p) [a] [] pos) (dRg1 da) := by
  obtain ⟨t, a1, a2⟩ := ha.ex
  refine ⟨_, prg_1 hg hm a1 na, fun B S σ ts H R Q o hd k => a2 B S σ ts H _ _ o hd fun v d S1 H1 q o1 => ?_⟩
  split at q
  · rename_i j e
    rw [int?_eq e] at o1
    obtain ⟨F, α, o1⟩ := o1
    exact ⟨j, vok_int o1.top, k _ _ _ _ q (o1.sub mem1).ok⟩
  · exact q.elim
theorem dr_2 (hg : Gl X "range") (hm : X.mg "range" = none) (ha : DE X a da) (hb : DE X b db) (na : starEach [a, b] X.env = (false, eval a X.env) :: starEach [b] X.env := by rfl)
    (nb : starEach [b] X.env = (false, eval b X.env) :: starEach [] X.env := by rfl) (hp : (backTo pos (starEach [b] X.env)).any (·.1) = false := by rfl) : DR X (.Call (.Name "range" p) [a, b] [] pos) (dRg2 da db) := by
  obtain ⟨t, a1, a2⟩ := ha.ex
  obtain ⟨u, b1, b2⟩ := hb.ex
  refine ⟨_, prg_2 hg hm a1 b1 na nb hp, fun B S σ ts H R Q o hd k => a2 B S σ ts H _ _ o hd fun v d S1 H1 q o1 => b2 B S1 σ _ H1 _ _ o1 q fun v2 d2 S2 H2 q2 o2 => ?_⟩
  split at q2
  · rename_i i j e1 e2
    rw [int?_eq e1, int?_eq e2] at o2
    obtain ⟨F, α, o2⟩ := o2
    exact ⟨i, j, vok_int o2.top2, vok_int o2.top, k _ _ _ _ q2 (o2.sub mem2).ok⟩
  · exact q2.elim
/-- list(range(..)): data, or a cell -/
def dLstRg (dr : DTR) : DTE := fun S R => dr S fun a b S1 => RgOk a b ∧ (R (.imm (.list (rgD a b))) S1 ∨ R (.cell S1.μ.length) (S1.new (.lst ((rgD a b).map DV.imm))))
theorem de_lstRg (hc : X.calm = true) (hg : Gl X "list") (hm : X.mg "list" = none) (he : DR X e dr) (na : starEach [e] X.env = (false, eval e X.env) :: starEach [] X.env := by rfl) : DE X (.Call (.Name "list" p) [e] [] pos) (dLstRg dr) := by
  obtain ⟨t, a1, a2⟩ := he.ex
  refine ⟨_, pe_listRg hc hg hm a1 na, fun B S σ ts H R Q o hd k => a2 B S σ ts H _ _ o hd fun i j S1 H1 q o1 => ⟨q.1, fun l hn => ?_⟩⟩
  obtain ⟨F, α, o1⟩ := o1
  rcases q.2 with q | q
  · exact k _ _ S1 _ q (o1.newLst hn (rp_rg i j)).ok
  · exact k _ _ _ _ q (o1.newCell hn (paired_imm (rp_rg i j))).ok
def tTupRgZ (te : L2.St → Hp → (Int → Int → Hp → Prop) → Prop) : TE := fun σ H Q => te σ H fun a b H1 => RgOk a b ∧ NewZ H1 (rgV a b) Q
theorem pe_tupRgZ {te : L2.St → Hp → (Int → Int → Hp → Prop) → Prop} (hc : X.calm = true) (hg : Gl X "tuple") (hm : X.mg "tuple" = none) (he : PRg X e te) (na : starEach [e] X.env = (false, eval e X.env) :: starEach [] X.env := by rfl) : PE X (.Call (.Name "tuple" p) [e] [] pos) (tTupRgZ te) := ⟨fun pins s σ H Q I h => by
  refine Call_ (ld_blt I hg hm boot_tuple (callWith_type1 (args_cons (thn (he pins s σ H _ I h) fun x s1 ⟨r, i, j, t, u, v, H1, ex, hr, I1, ok, q⟩ => args_nil ?_) na) na))
  subst ex
  obtain ⟨b1, b2, b3, b4, b5⟩ := ok
  refine call_tuple_range (I1.ok.hd hc) hr (small_one b1 b2 b3 b4) (rangeSize_nat i j) b5 fun h' tk acc kept items => ?_
  have e2 : acc = acc.toList.toArray := by simp
  rw [e2]
  exact laidZ (t' := tk) (I1.kept (t' := tk) kept) (vals_rg items) (by rw [rgV_length, sizeLine_eq]; omega) q⟩
def dTupRg (dr : DTR) : DTE := fun S R => dr S fun a b S1 => RgOk a b ∧ R (.imm (.tuple (rgD a b))) S1
theorem de_tupRg (hc : X.calm = true) (hg : Gl X "tuple") (hm : X.mg "tuple" = none) (he : DR X e dr) (na : starEach [e] X.env = (false, eval e X.env) :: starEach [] X.env := by rfl) : DE X (.Call (.Name "tuple" p) [e] [] pos) (dTupRg dr) := by
  obtain ⟨t, a1, a2⟩ := he.ex
  refine ⟨_, pe_tupRgZ hc hg hm a1 na, fun B S σ ts H R Q o hd k => a2 B S σ ts H _ _ o hd fun i j S1 H1 q o1 => ⟨q.1, fun l ob hn ho => ?_⟩⟩
  obtain ⟨F, α, o1⟩ := o1
  exact k _ _ S1 _ q.2 (o1.newTup hn ho (rp_rg i j)).ok
/-- lo, lo + c, .. -/
def rangeCD (lo c : Int) (n : Nat) : List DY := (List.range n).map fun (i : Nat) => DY.one (dI (lo + (i : Int) * c))
theorem rangeCD_len (lo c : Int) (n : Nat) : (rangeCD lo c n).length = n := by unfold rangeCD; rw [List.length_map, List.length_range]
theorem rangeCD_get {lo c : Int} {n i : Nat} {y : DY} (h : (rangeCD lo c n)[i]? = some y) : i < n ∧ y = .one (dI (lo + (i : Int) * c)) := by
  unfold rangeCD at h
  rw [List.getElem?_map] at h
  by_cases q : i < n
  · rw [List.getElem?_range q] at h
    cases h
    exact ⟨q, rfl⟩
  · rw [List.getElem?_eq_none (by simpa using q)] at h
    cases h
theorem get_rangeCD {lo c : Int} {n i : Nat} (h : i < n) : (rangeCD lo c n)[i]? = some (.one (dI (lo + (i : Int) * c))) := by
  unfold rangeCD
  rw [List.getElem?_map, List.getElem?_range h]
  rfl
theorem snd_rngC {P : Program} {w : World} {K : PySem.W.Frag} {B : Bs} {S1 : DSt} {σ : L2.St} {ts : List (V × DV)} {H1 : Hp} {lo c : Int} {n : Nat} {R : List DY → (DSt → Prop) → DSt → Prop} {Q : It → Hp → Prop} (q : R (rangeCD lo c n) (fun _ => True) S1) (o : StOk P w K B S1 σ ts H1)
    (k : ∀ (ys : List DY) (Sy : DSt → Prop) (S1 : DSt) (H1 : Hp) (J : It) (G : Hp → Prop) (Y : Nat → Hp → V → Hp → Prop) (us : List (V × DV)), R ys Sy S1 → StOk P w K B S1 σ (us ++ ts) H1 → L2.Walk J ys.length G Y →
    (∀ B2 S2 σ2 H2 vs, (∀ p ∈ us, p ∈ vs) → Sy S2 → StOk P w K B2 S2 σ2 vs H2 → G H2) →
    (∀ B2 i S2 σ2 H2 x H3 vs, i < ys.length → (∀ p ∈ us, p ∈ vs) → Sy S2 → StOk P w K B2 S2 σ2 vs H2 → Y i H2 x H3 → ∃ y, ys[i]? = some y ∧ StY P w K B2 S2 σ2 vs H3 x y) → Q J H1) : Q (Itc lo c n) H1 := by
  refine k (rangeCD lo c n) (fun _ => True) S1 H1 (Itc lo c n) _ _ [] q o (by rw [rangeCD_len]; exact walk_rangeC) (fun _ _ _ _ _ _ _ _ => trivial) fun B2 i S2 σ2 H2 v H3 vs hi hv hs2 ⟨F2, α2, o2⟩ y => ?_
  obtain ⟨rfl, rfl⟩ := y
  rw [rangeCD_len] at hi
  exact ⟨_, get_rangeCD hi, F2, α2, o2, Rp.int _⟩
/-- for x in reversed(range(..)) -/
def diRevR (dr : DTR) : DTI := fun S R => dr S fun a b S1 => (-(2 ^ 62) ≤ a ∧ a < 2 ^ 62 ∧ -(2 ^ 62) ≤ b ∧ b < 2 ^ 62) ∧ R (rangeCD (a + (((b - a).toNat : Nat) : Int) - 1) (-1) (b - a).toNat) (fun _ => True) S1
theorem di_revR {tg : Expr} (hg : Gl X "reversed") (hm : X.mg "reversed" = none) (he : DR X e dr) (hs : starEach [e] X.env = (false, eval e X.env) :: starEach [] X.env := by rfl) : DI X tg (.Call (.Name "reversed" p) [e] [] pos) (diRevR dr) := by
  obtain ⟨t, a1, a2⟩ := he.ex
  refine ⟨_, pi_revR hg hm a1 hs, fun B S σ ts H R Q o hd k => a2 B S σ ts H _ _ o hd fun i j S1 H1 q o1 => ⟨q.1.1, q.1.2.1, q.1.2.2.1, q.1.2.2.2, snd_rngC q.2 o1 k⟩⟩
/-! ## sorted, sum, divmod, int, str -/
def gSorted : DC1 := fun ds S R => match ds with
  | [x] => match S.seq x with
    | some (true, es) => match allI es with
      | some ns => ∀ ns' : List Int, ns'.Perm ns → ns'.Pairwise (· ≤ ·) → R (.imm (.list (ns'.map .int))) S
      | none => False
    | _ => False
  | _ => False
theorem cd_sorted : CallD X (.builtin "sorted") gSorted := ⟨_, cr_sortedI, fun B S σ ts H xs ds R Q hl h hd k => by
  match ds, hd with
  | [x], hd =>
    match xs, hl with
    | [y], _ =>
      obtain ⟨F, α, h⟩ := h
      have h1 := h.tm (y, x) (by simp)
      unfold gSorted at hd
      dsimp only at hd
      split at hd
      · rename_i es e
        obtain ⟨p, ys, e0, hq, hp⟩ := h.seq h1 e
        dsimp only at e0
        subst e0
        split at hd
        · rename_i ns e2
          have hq' : SqL X.K H p ys := hq
          rw [allI_ok hp e2] at hq'
          exact ⟨p, ns, rfl, hq', fun ns' l q1 q2 hn => k _ _ S _ (hd ns' q1 q2) ((h.sub memA).newLst hn (rp_ints ns')).ok⟩
        · exact hd.elim
      · exact hd.elim⟩
def gSum : DC1 := fun ds S R => match ds with
  | [x] => match S.seq x with
    | some (true, es) => match allI es with
      | some ns => R (dI ns.sum) S
      | none => False
    | _ => False
  | _ => False
theorem cd_sum (hc : X.calm = true) : CallD X (.builtin "sum") gSum := ⟨_, cr_sum hc, fun B S σ ts H xs ds R Q hl h hd k => by
  match ds, hd with
  | [x], hd =>
    match xs, hl with
    | [y], _ =>
      obtain ⟨F, α, h⟩ := h
      have h1 := h.tm (y, x) (by simp)
      unfold gSum at hd
      dsimp only at hd
      split at hd
      · rename_i es e
        obtain ⟨p, ys, e0, hq, hp⟩ := h.seq h1 e
        dsimp only at e0
        subst e0
        split at hd
        · rename_i ns e2
          have hq' : SqL X.K H p ys := hq
          rw [allI_ok hp e2] at hq'
          exact ⟨p, ns, rfl, hq', k _ _ S H hd ((h.sub memA).add vint).ok⟩
        · exact hd.elim
      · exact hd.elim⟩
def gDivmod : DC1 := fun ds S R => match ds with
  | [x, y] => match x.int?, y.int? with
    | some i, some j => DivOk i j ∧ R (.imm (.tuple [.int (i / j), .int (i % j)])) S
    | _, _ => False
  | _ => False
theorem cd_divmod : CallD X (.builtin "divmod") gDivmod := ⟨_, call_divmodZ, fun B S σ ts H xs ds R Q hl h hd k => by
  match ds, hd with
  | [x, y], hd =>
    match xs, hl with
    | [u, v], _ =>
      obtain ⟨F, α, h⟩ := h
      have h1 := h.tm (u, x) (by simp)
      have h2 := h.tm (v, y) (by simp)
      have hd' : match x.int?, y.int? with
        | some i, some j => DivOk i j ∧ R (.imm (.tuple [.int (i / j), .int (i % j)])) S
        | _, _ => False := hd
      split at hd'
      · rename_i i j e1 e2
        rw [int?_eq e1] at h1
        rw [int?_eq e2] at h2
        have h1' := vok_int h1
        have h2' := vok_int h2
        dsimp only at h1' h2'
        subst h1' h2'
        exact ⟨i, j, rfl, hd'.1, fun p ob hn ho => k _ _ S _ hd'.2 ((h.sub memA).newTup hn ho (.cons (.int _) (.cons (.int _) .nil))).ok⟩
      · exact hd'.elim⟩
def gInt : DC1 := fun ds S R => match ds with
  | [.imm (.int i)] => R (dI i) S
  | [.imm (.bool b)] => R (dI (if b then 1 else 0)) S
  | _ => False
theorem cd_int : CallD X (.type "int") gInt := ⟨_, call_int1, fun B S σ ts H xs ds R Q hl h hd k => by
  unfold gInt at hd
  split at hd
  · rename_i i
    match xs, hl with
    | [u], _ =>
      obtain ⟨F, α, h⟩ := h
      have e := vok_int (h.tm (u, dI i) (by simp))
      dsimp only at e
      subst e
      exact .inl ⟨i, rfl, k _ _ S H hd ((h.sub memA).add vint).ok⟩
  · rename_i b
    match xs, hl with
    | [u], _ =>
      obtain ⟨F, α, h⟩ := h
      have e := vok_bl (h.tm (u, dB b) (by simp))
      dsimp only at e
      subst e
      exact .inr ⟨b, rfl, k _ _ S H hd ((h.sub memA).add vint).ok⟩
  · exact hd.elim⟩
def gStr : DC1 := fun ds S R => match ds with
  | [.imm (.int i)] => i.natAbs.log2 < 1920 ∧ R (dS (toString i)) S
  | _ => False
theorem cd_str : CallD X (.type "str") gStr := ⟨_, call_str_int, fun B S σ ts H xs ds R Q hl h hd k => by
  unfold gStr at hd
  split at hd
  · rename_i i
    match xs, hl with
    | [u], _ =>
      obtain ⟨F, α, h⟩ := h
      have e := vok_int (h.tm (u, dI i) (by simp))
      dsimp only at e
      subst e
      exact ⟨i, rfl, hd.1, k _ _ S H hd.2 ((h.sub memA).add vstr).ok⟩
  · exact hd.elim⟩
end
end DL

set_option Elab.async false
set_option linter.all false
set_option maxRecDepth 100000
set_option autoImplicit false
set_option maxHeartbeats 2000000
namespace DL
open PySem PySem.Spec L2 PyProof.Rows

/-! ## more methods of lists and tuples -/
section
variable {X : Cx}
def gPop : DM := fun x ds S R => match x, ds with
  | .cell k, [] => match S.cell k with
    | some (.lst es) => match es[es.length - 1]? with
      | some d => R d (S.put k (.lst es.dropLast))
      | none => False
    | _ => False
  | _, _ => False
theorem pget' {V1 D1 : Type} {r : V1 → D1 → Prop} : ∀ {xs : List V1} {ds : List D1} (i : Nat) {d : D1}, Paired r xs ds → ds[i]? = some d → ∃ x, xs[i]? = some x ∧ r x d
  | _, _, _, _, .nil, h => by simp at h
  | _, _, 0, d, .cons h _, e => by simp at e; subst e; exact ⟨_, rfl, h⟩
  | _, _, i + 1, d, .cons _ t, e => by
    obtain ⟨x, h1, h2⟩ := pget' i t (by simpa using e)
    exact ⟨x, by simpa using h1, h2⟩
theorem md_pop : MthD X "list.pop" gPop := ⟨_, mt_pop, fun B S σ ts H x dx xs ds R Q hl h hd k => by
  unfold gPop at hd
  split at hd
  · rename_i kk
    split at hd
    · rename_i es e
      split at hd
      · rename_i d e2
        match xs, hl with
        | [], _ =>
          obtain ⟨F, α, h⟩ := h
          obtain ⟨a, zs, rfl, g1, g2, g3, g4⟩ := h.cellL (h.tm (x, .cell kk) (by simp)) e
          obtain ⟨y, y1, y2⟩ := pget' _ g4 e2
          exact ⟨a, zs, y, rfl, rfl, g3, by rw [Paired.length g4]; exact y1, k _ _ _ _ hd (((h.sub fun p hp => by simp [hp]).cellPut (u := .lst es.dropLast) g1 g2 ⟨_, upd_same, Paired.dropLast' g4⟩).add y2).ok⟩
      · exact hd.elim
    · exact hd.elim
  · exact hd.elim⟩
def gPopAt : DM := fun x ds S R => match x, ds with
  | .cell k, [d] => match S.cell k, d.int? with
    | some (.lst es), some i => 0 ≤ i ∧ i < 2 ^ 63 ∧ match es[i.toNat]? with
      | some d => R d (S.put k (.lst (es.eraseIdx i.toNat)))
      | none => False
    | _, _ => False
  | _, _ => False
theorem md_popAt : MthD X "list.pop" gPopAt := ⟨_, mt_popAt, fun B S σ ts H x dx xs ds R Q hl h hd k => by
  unfold gPopAt at hd
  split at hd
  · rename_i kk d0
    split at hd
    · rename_i es i e e1
      obtain ⟨i0, i1, hd⟩ := hd
      split at hd
      · rename_i d e2
        match xs, hl with
        | [y], _ =>
          obtain ⟨F, α, h⟩ := h
          obtain ⟨a, zs, rfl, g1, g2, g3, g4⟩ := h.cellL (h.tm (x, .cell kk) (by simp)) e
          obtain ⟨v, v1, v2⟩ := pget' _ g4 e2
          have hy := h.tm (y, d0) (by simp)
          rw [int?_eq e1] at hy
          have ey := vok_int hy
          dsimp only at ey
          subst ey
          have hlt : i.toNat < zs.length := (List.getElem?_eq_some_iff.mp v1).1
          exact ⟨a, zs, i, i.toNat, v, rfl, rfl, g3, by omega, i1, PySem.StrLaws.seqIndex_nonneg i0 (by omega), v1, k _ _ _ _ hd (((h.sub fun p hp => by simp [hp]).cellPut (u := .lst (es.eraseIdx i.toNat)) g1 g2 ⟨_, upd_same, Paired.erase' _ g4⟩).add v2).ok⟩
      · exact hd.elim
    · exact hd.elim
  · exact hd.elim⟩
def gReverse : DM := fun x ds S R => match x, ds with
  | .cell k, [] => match S.cell k with
    | some (.lst es) => R dN (S.put k (.lst es.reverse))
    | _ => False
  | _, _ => False
theorem md_reverse : MthD X "list.reverse" gReverse := ⟨_, mt_reverse, fun B S σ ts H x dx xs ds R Q hl h hd k => by
  unfold gReverse at hd
  split at hd
  · rename_i kk
    split at hd
    · rename_i es e
      match xs, hl with
      | [], _ =>
        obtain ⟨F, α, h⟩ := h
        obtain ⟨a, zs, rfl, g1, g2, g3, g4⟩ := h.cellL (h.tm (x, .cell kk) (by simp)) e
        exact ⟨a, zs, rfl, rfl, g3, k _ _ _ _ hd (((h.sub fun p hp => by simp [hp]).cellPut (u := .lst es.reverse) g1 g2 ⟨_, upd_same, Paired.rev' g4⟩).add vnon).ok⟩
    · exact hd.elim
  · exact hd.elim⟩
def gClear : DM := fun x ds S R => match x, ds with
  | .cell k, [] => match S.cell k with
    | some (.lst _) => R dN (S.put k (.lst []))
    | _ => False
  | _, _ => False
theorem md_clear : MthD X "list.clear" gClear := ⟨_, mt_clear, fun B S σ ts H x dx xs ds R Q hl h hd k => by
  unfold gClear at hd
  split at hd
  · rename_i kk
    split at hd
    · rename_i es e
      match xs, hl with
      | [], _ =>
        obtain ⟨F, α, h⟩ := h
        obtain ⟨a, zs, rfl, g1, g2, g3, g4⟩ := h.cellL (h.tm (x, .cell kk) (by simp)) e
        exact ⟨a, zs, rfl, rfl, g3, k _ _ _ _ hd (((h.sub fun p hp => by simp [hp]).cellPut (u := .lst []) g1 g2 ⟨_, upd_same, .nil⟩).add vnon).ok⟩
    · exact hd.elim
  · exact hd.elim⟩
/-- xs.index(k), xs.count(k): a list of ints -/
def gIndexI (l : Bool) : DM := fun x ds S R => match S.seq x, ds with
  | some (b, es), [d] => b = l ∧ match allI es, d.int? with
    | some ns, some k => k ∈ ns ∧ R (dI (ns.idxOf k : Nat)) S
    | _, _ => False
  | _, _ => False
theorem md_index : MthD X "list.index" (gIndexI true) := ⟨_, mt_index, fun B S σ ts H x dx xs ds R Q hl h hd k => by
  unfold gIndexI at hd
  split at hd
  · rename_i b es d e
    obtain ⟨rfl, hd⟩ := hd
    split at hd
    · rename_i ns z e1 e2
      match xs, hl with
      | [y], _ =>
        obtain ⟨F, α, h⟩ := h
        have hy := h.tm (y, d) (by simp)
        rw [int?_eq e2] at hy
        have ey := vok_int hy
        dsimp only at ey
        subst ey
        obtain ⟨p, ys, ex, hq, hp⟩ := h.seq (h.tm (x, dx) (by simp)) e
        dsimp only at ex
        subst ex
        have hq' : SqL X.K H p ys := hq
        rw [allI_ok hp e1] at hq'
        have hj : ns.idxOf z < ns.length := List.idxOf_lt_length_iff.mpr hd.1
        refine ⟨p, ns.map V.int, .int z, ns.idxOf z, .int z, rfl, rfl, hq', rfl, ?_, ?_, by simp [eqV], fun m z' hm hz => ?_, k _ _ S H hd.2 ((h.sub fun p hp => by simp [hp]).add vint).ok⟩
        · rw [List.all_map]; exact List.all_eq_true.mpr fun _ _ => rfl
        · rw [List.getElem?_map, List.getElem?_eq_getElem hj, List.getElem_idxOf hj]; rfl
        · rw [List.getElem?_map] at hz
          obtain ⟨i, hi, rfl⟩ := Option.map_eq_some_iff.mp hz
          have hml := (List.getElem?_eq_some_iff.mp hi).1
          have hne : i ≠ z := by
            rw [← (List.getElem?_eq_some_iff.mp hi).2]
            exact SeqAt.lt_idxOf_ne hm hml
          simp [eqV, hne]
    · exact hd.elim
  · exact hd.elim⟩
def gCountI : DM := fun x ds S R => match S.seq x, ds with
  | some (true, es), [d] => match allI es, d.int? with
    | some ns, some k => R (dI (ns.count k : Nat)) S
    | _, _ => False
  | _, _ => False
theorem md_count : MthD X "list.count" gCountI := ⟨_, mt_lcount, fun B S σ ts H x dx xs ds R Q hl h hd k => by
  unfold gCountI at hd
  split at hd
  · rename_i es d e
    split at hd
    · rename_i ns z e1 e2
      match xs, hl with
      | [y], _ =>
        obtain ⟨F, α, h⟩ := h
        have hy := h.tm (y, d) (by simp)
        rw [int?_eq e2] at hy
        have ey := vok_int hy
        dsimp only at ey
        subst ey
        obtain ⟨p, ys, ex, hq, hp⟩ := h.seq (h.tm (x, dx) (by simp)) e
        dsimp only at ex
        subst ex
        have hq' : SqL X.K H p ys := hq
        rw [allI_ok hp e1] at hq'
        exact ⟨p, ns, z, rfl, rfl, hq', k _ _ S H hd ((h.sub fun p hp => by simp [hp]).add vint).ok⟩
    · exact hd.elim
  · exact hd.elim⟩
/-- t.index(k): a tuple of ints -/
def rTIndex (K : PySem.W.Frag) : V → List V → Hp → VK → Prop := fun x xs H Q => ∃ (p : Addr) (ns : List Int) (k : Int), x = .ref p ∧ xs = [.int k] ∧ SqT K H p (ns.map V.int) ∧ k ∈ ns ∧ Q (.int (ns.idxOf k : Nat)) H
theorem mt_tindex : MtR X "tuple.index" (rTIndex X.K) := by
  intro pins s σ H x xs v us Q I rx rs h
  obtain ⟨p, ns, k, rfl, rfl, hq, hk, q⟩ := h
  cases rx
  obtain ⟨u, rfl, t, rfl⟩ := vals1 rs
  obtain ⟨its, rv, tup, hz⟩ := I.tuple hq
  have nums := rv.ints
  refine SeqAt.call_tuple_index (ks := ns) (k := k) tup ⟨nums.length, fun j h1 h2 => ?_⟩ hk ⟨.int _, H, I.tok _, ⟨_, rfl⟩, q⟩
  obtain ⟨t', e⟩ := nums.int_at j its[j] (List.getElem?_eq_getElem h1)
  rw [e, show (ns.getD j 0) = ns[j] by rw [List.getD_eq_getElem?_getD, List.getElem?_eq_getElem h2]; rfl]
  exact SeqAt.EqAt.int_int _ _ _ _
/-- the receiver is a plain tuple -/
def isTup (d : DV) : Prop := ∃ ps, d = .imm (.tuple ps)
def dBMT (g : DM) (do' : DTE) (da : DTA) : DTE := fun S R => do' S fun x S1 => isTup x ∧ da S1 fun ds S2 => g x ds S2 R
theorem snd_tindex {P : Program} {w : World} {K : PySem.W.Frag} : SndM P w K (rTIndex K) (gIndexI false) := fun B S σ ts H x dx xs ds R Q hl h hd k => by
  unfold gIndexI at hd
  split at hd
  · rename_i b es d e
    obtain ⟨rfl, hd⟩ := hd
    split at hd
    · rename_i ns z e1 e2
      match xs, hl with
      | [y], _ =>
        obtain ⟨F, α, h⟩ := h
        have hy := h.tm (y, d) (by simp)
        rw [int?_eq e2] at hy
        have ey := vok_int hy
        dsimp only at ey
        subst ey
        obtain ⟨p, ys, ex, hq, hp⟩ := h.seq (h.tm (x, dx) (by simp)) e
        dsimp only at ex
        subst ex
        have hq' : SqT K H p ys := hq
        rw [allI_ok hp e1] at hq'
        exact ⟨p, ns, z, rfl, rfl, hq', hd.1, k _ _ S H hd.2 ((h.sub fun p hp => by simp [hp]).add vint).ok⟩
    · exact hd.elim
  · exact hd.elim
theorem de_tindex {o e : Expr} {apos cpos : Pos} {do' : DTE} {da : DTA} (ho : DE X o do') (ha : DA X [e] da)
    (hbase : attributeBase o "index" X.env (eval o X.env) = eval o X.env := by rfl)
    (hfew : ((backTo cpos (starEach [e] X.env)).all (fun x => !x.1) && (backToKw cpos (keywordEach [] X.env)).all (fun x => x.1.isSome)
      && decide ([e].length + ([] : List Keyword).length + (if ([] : List Keyword).isEmpty then 0 else 1) < 30)) = true := by rfl)
    (hline : (apos.endLine == cpos.line) = true := by rfl) (hs : starEach [e] X.env = (false, eval e X.env) :: starEach [] X.env := by rfl) (hplain : (backTo cpos (starEach [] X.env)).any (·.1) = false := by rfl) :
    DE X (.Call (.Attribute o "index" apos) [e] [] cpos) (dBMT (gIndexI false) do' da) := by
  obtain ⟨to, o1, o2⟩ := ho.ex
  obtain ⟨ta, a1, a2⟩ := ha.ex
  refine ⟨_, pe_bmT PySem.F.plainAttrs_tuple PySem.F.slot_tuple_index PySem.F.type_tuple_index mt_tindex o1 a1 hbase hfew hline hs hplain, fun B S σ ts H R Q h hd k => o2 B S σ ts H _ _ h hd fun x dx S1 H1 q o => ?_⟩
  obtain ⟨⟨ps, rfl⟩, q⟩ := q
  obtain ⟨F, α, o⟩ := o
  obtain ⟨p, ys, rfl, tz, _⟩ := rp_tup (α := α) o.top
  exact ⟨⟨p, ys, rfl, tz.up o.fh⟩, a2 B S1 σ _ H1 _ _ o.ok q fun vs ds S2 H2 hl q2 o2 => snd_tindex B S2 σ ts H2 _ _ vs ds R Q hl o2 q2 k⟩
end
end DL

set_option Elab.async false
set_option linter.all false
set_option maxRecDepth 100000
set_option autoImplicit false
set_option maxHeartbeats 2000000
namespace DL
open PySem PySem.Spec L2 PyProof.Rows

/-! ## a, b, c, d = w, x, y, z -/
def setN : DSt → List Nat → List DV → Option DSt
  | S, [], [] => some S
  | S, j :: js, d :: ds => setN (S.set j d) js ds
  | _, _, _ => none
def gNames : List Nat → TGs
  | [] => gNil
  | j :: js => gCons (gName j) (gNames js)
def dParN (js : List Nat) (da : DTA) : DTS := fun D S => da S fun ds S1 => ds.length ≤ sizeLine ∧ match setN S1 js ds with
  | some S2 => D.nx S2
  | none => False
section
variable {P : Program} {w : World} {K : PySem.W.Frag} {B : Bs} {σ : L2.St} {ts : List (V × DV)} {H F : Hp} {α : List Addr}
theorem setN_len : ∀ {js : List Nat} {ds : List DV} {S S2 : DSt}, setN S js ds = some S2 → ds.length = js.length
  | [], [], _, _, _ => rfl
  | [], _ :: _, _, _, h => by cases h
  | _ :: _, [], _, _, h => by cases h
  | j :: js, d :: ds, S, S2, h => by rw [List.length_cons, List.length_cons, setN_len (show setN (S.set j d) js ds = some S2 from h)]
theorem names_run : ∀ {js : List Nat} {ds : List DV} {xs : List V} {S S2 : DSt} {σ : L2.St} {Q : L2.St → Hp → Prop}, Paired (VOk P w K F α) xs ds → setN S js ds = some S2 → StAt P w K B S σ ts H F α →
    (∀ σ', StAt P w K B S2 σ' ts H F α → Q σ' H) → gNames js xs σ H Q
  | [], [], _, _, _, _, _, hp, h, o, k => by cases hp; cases h; exact ⟨rfl, k _ o⟩
  | [], _ :: _, _, _, _, _, _, _, h, _, _ => by cases h
  | _ :: _, [], _, _, _, _, _, _, h, _, _ => by cases h
  | j :: js, d :: ds, _, S, S2, σ, Q, .cons h1 t, h, o, k => ⟨_, _, rfl, names_run t (show setN (S.set j d) js ds = some S2 from h) (o.setSlot h1) k⟩
theorem args_zip : ∀ {xs : List V} {ds : List DV}, xs.length = ds.length → (∀ p ∈ xs.zip ds, VOk P w K F α p.1 p.2) → Paired (VOk P w K F α) xs ds
  | [], [], _, _ => .nil
  | [], _ :: _, h, _ => by simp at h
  | _ :: _, [], h, _ => by simp at h
  | x :: xs, d :: ds, h, q => .cons (q (x, d) (by simp)) (args_zip (by simpa using h) fun p hp => q p (by simp [hp]))
end
section
variable {X : Cx} {es es' : List Expr} {js : List Nat} {da : DTA} {pt p2 pos : Pos} {kt k2 : Nat}
theorem ds_parN (hc : X.calm = true) (ha : DA X es' da) (hg : PGs X es (gNames js)) (hn : (assignEach es X.env).length = js.length := by rfl) (hst : (assignEach es X.env).findIdx? (·.1) = none := by rfl)
    (hs : swapsWithSole [.Tuple es kt pt] (.Tuple es' k2 p2) pos.line X.env = pure false := by rfl) (hw : swappedStores [.Tuple es kt pt] (.Tuple es' k2 p2) X.env = pure none := by rfl)
    (h1 : (assignEach [.Tuple es kt pt] X.env).map (·.2) = [assign (.Tuple es kt pt) X.env] := by rfl) : DS X (.Assign [.Tuple es kt pt] (.Tuple es' k2 p2) pos) (dParN js da) := by
  obtain ⟨t, a1, a2⟩ := ha.ex
  refine ⟨_, ps_asg (pe_tupZ a1) (pg_tup hc hg hn hst) hs hw h1, fun B S σ ts H D G h hd l => a2 B S σ ts H _ _ h hd fun vs ds S1 H1 hl q o => ?_⟩
  obtain ⟨hz, q⟩ := q
  refine ⟨by rw [hl]; exact hz, fun p ob hp ho => ?_⟩
  cases e : setN S1 js ds with
  | none => rw [e] at q; exact q.elim
  | some S2 =>
    rw [e] at q
    obtain ⟨F, α, o⟩ := o
    have o2 := o.lay (o := .frz ob (.tup vs)) hp
    have hpr := args_zip (F := upd F p (.frz ob (.tup vs))) hl fun z hz => o2.tm z (List.mem_append_left _ hz)
    exact ⟨p, vs, rfl, .inl (.inr ⟨ob, upd_same⟩), by rw [hl]; exact setN_len e, names_run hpr e o2 fun σ' o3 => l.nx S2 σ' _ q (o3.sub memA).ok⟩
/-- three names, the values swapped on the stack -/
theorem ds_par3 {i j l : Nat} {x y z : Str} {a b c : Expr} {px py pz : Pos} (hc : X.calm = true) (hN : X.N.Nodup) (hi : X.N[i]? = some x) (hj : X.N[j]? = some y) (hl : X.N[l]? = some z) (hij : i ≠ j) (hil : i ≠ l) (hjl : j ≠ l)
    (hx : X.env.scope.names.lookup x = some .local) (hy : X.env.scope.names.lookup y = some .local) (hz : X.env.scope.names.lookup z = some .local) (ha : DA X [a, b, c] da)
    (hw : swappedStores [.Tuple [.Name x px, .Name y py, .Name z pz] kt pt] (.Tuple [a, b, c] k2 p2) X.env = pure (some [x, y, z]))
    (hs : swapsWithSole [.Tuple [.Name x px, .Name y py, .Name z pz] kt pt] (.Tuple [a, b, c] k2 p2) pos.line X.env = pure false := by rfl) :
    DS X (.Assign [.Tuple [.Name x px, .Name y py, .Name z pz] kt pt] (.Tuple [a, b, c] k2 p2) pos) (dParN [i, j, l] da) := by
  obtain ⟨t, a1, a2⟩ := ha.ex
  refine ⟨_, ps_par3 hc hN hi hj hl hij hil hjl hx hy hz a1 hw hs, fun B S σ ts H D G h hd lf => a2 B S σ ts H _ _ h hd fun vs ds S1 H1 hlen q o => ?_⟩
  obtain ⟨_, q⟩ := q
  match ds, q with
  | [d1, d2, d3], q =>
    match vs, hlen with
    | [u, v, w], _ =>
      obtain ⟨F, α, o⟩ := o
      have h1 := o.tm (u, d1) (by simp)
      have h2 := o.tm (v, d2) (by simp)
      have h3 := o.tm (w, d3) (by simp)
      exact ⟨u, v, w, rfl, lf.nx _ _ H1 q ((((o.setSlot h1).setSlot h2).setSlot h3).sub memA).ok⟩
/-! ## {} -/
def dNewD : DTE := fun S R => R (.cell S.μ.length) (S.new (.dic []))
theorem de_newD : DE X (.Dict [] [] pos) dNewD := ⟨_, pe_view pe_dnewK, fun B S σ ts H R Q h hd k => by
  obtain ⟨F, α, o⟩ := h
  intro p hp
  have o1 := o.free (o := .dK []) (fun q => o.an p q hp) (o.freeF hp) (o.freshB hp)
  refine ⟨p, [], rfl, upd_same, ?_⟩
  have e2 : upd (upd H p (.dK [])) p (DicO X.prog X.w p (lfs [])) = upd H p (DicO X.prog X.w p []) := by
    funext b
    unfold upd
    by_cases c : b = p
    · rw [if_pos c, if_pos c]; rfl
    · rw [if_neg c, if_neg c, if_neg c]
  rw [e2]
  exact k _ _ _ _ hd ((o.cellNew (o := DicO X.prog X.w p []) (u := .dic []) hp ⟨[], upd_same, .nil⟩).add (d := .cell S.μ.length) ⟨p, by rw [← o.al, List.getElem?_append_right (Nat.le_refl _), Nat.sub_self]; rfl, rfl⟩).ok⟩
end
end DL

set_option Elab.async false
set_option linter.all false
set_option maxRecDepth 100000
set_option autoImplicit false
set_option maxHeartbeats 2000000
namespace DL
open PySem PySem.Spec L2 PyProof.Rows

/-! ## more readings, run -/
section
variable {P : Program} {w : World} {K : PySem.W.Frag} {S : DSt} {R : DV → DSt → Prop} {RS : DSt → Prop} {RB : Bool → DSt → Prop} {RI : List DY → (DSt → Prop) → DSt → Prop} {RR : Int → Int → DSt → Prop} {RO : Option Int → DSt → Prop} {D : DEnds} {x y d : DV} {k : Nat} {es fs : List DV} {ps : List PyData} {m n : Int} {da db dc : DTE} {dr : DTA} {rg : DTR} {dl dh : DTO} {c dt : DTT} {ds : DTS} {dsp : DSp}
theorem r_pow (h : PowOk m n) (q : R (dI (m ^ n.toNat)) S) : gPow (dI m) (dI n) S R := ⟨h, q⟩
def kPut (RS : DSt → Prop) (v : DV) : DV → DV → DSt → Prop := fun o i S => match o with
  | .cell k => gPut k i v S RS
  | _ => False
theorem r_dput (h : da S fun v S1 => db S1 fun o S2 => dc S2 fun i S3 => kPut D.nx v o i S3) : dPut da db dc D S := h
theorem r_putL {i : Nat} {v : DV} (e : S.cell k = some (.lst es)) (hi : ixN es.length n = some i) (h : RS (S.put k (.lst (es.set i v)))) : kPut RS v (.cell k) (dI n) S := by
  show gPut k (dI n) v S RS
  unfold gPut
  rw [e]
  dsimp only
  rw [show (dI n).int? = some n from rfl]
  dsimp only
  rw [hi]; exact h
theorem r_putD {v : DV} {kvs : List (Leaf × DV)} {l : Leaf} (e : S.cell k = some (.dic kvs)) (hk : keyOf x = some l) (hz : kvs.length < sizeLine) (h : RS (S.put k (.dic (putG kvs l v)))) : kPut RS v (.cell k) x S := by
  show gPut k x v S RS
  unfold gPut
  rw [e]
  dsimp only
  rw [hk]; exact ⟨hz, h⟩
theorem r_atC {e : DV} (hc : S.cell k = some (.lst es)) (hi : atI es n = some e) (q : R e S) : gAt (.cell k) (dI n) S R := r_at (nodict_cell hc) (seq_cell hc) hi q
theorem r_lenC (hc : S.cell k = some (.lst es)) (q : R (dI es.length) S) : gLenA [.cell k] S R := r_len (nodict_cell hc) (seq_cell hc) q
theorem r_mulL {j : Int} {a : List DV} (e : S.lst x = some a) (hj : 0 ≤ j ∧ j < 2 ^ 63 ∧ a.length * j.toNat ≤ sizeLine) (ei : allImm a = some ps) (q : R (.cell S.μ.length) (S.new (.lst ((List.replicate j.toNat ps).flatten.map DV.imm)))) : gOr gMul gMulC x (dI j) S R := .inr (by
  unfold gMulC
  rw [e, show (dI j).int? = some j from rfl]
  dsimp only
  rw [ei]
  exact ⟨hj, q⟩)
theorem r_tupOf (e : S.seq x = some (true, es)) (ei : allImm es = some ps) (q : R (.imm (.tuple ps)) S) : gTupOf [x] S R := by
  unfold gTupOf
  dsimp only
  rw [e]
  dsimp only
  rw [ei]; exact q
theorem r_listOf {b : Bool} (e : S.seq x = some (b, es)) (ei : allImm es = some ps) (q : R (.imm (.list ps)) S) : gListOf [x] S R := by
  unfold gListOf
  dsimp only
  rw [e]
  dsimp only
  rw [ei]; exact .inl q
theorem r_listOfC {b : Bool} (e : S.seq x = some (b, es)) (q : R (.cell S.μ.length) (S.new (.lst es))) : gListOf [x] S R := by
  unfold gListOf
  dsimp only
  rw [e]
  exact .inr q
theorem r_pop (e : S.cell k = some (.lst es)) (hd : es[es.length - 1]? = some d) (q : R d (S.put k (.lst es.dropLast))) : gPop (.cell k) [] S R := by
  unfold gPop
  dsimp only
  rw [e]
  dsimp only
  rw [hd]; exact q
theorem r_popAt (e : S.cell k = some (.lst es)) (h0 : 0 ≤ n) (h1 : n < 2 ^ 63) (hd : es[n.toNat]? = some d) (q : R d (S.put k (.lst (es.eraseIdx n.toNat)))) : gPopAt (.cell k) [dI n] S R := by
  unfold gPopAt
  dsimp only
  rw [e, show (dI n).int? = some n from rfl]
  dsimp only
  rw [hd]; exact ⟨h0, h1, q⟩
def kSl (R : DV → DSt → Prop) (x : DV) (lo hi : Option Int) : DSt → Prop := fun S => gSl x lo hi S R
theorem r_sl (h : da S fun x S1 => dl S1 fun lo S2 => dh S2 fun hi S3 => kSl R x lo hi S3) : dSl da dl dh S R := h
theorem r_noPart (q : RO none S) : dNoPart S RO := q
def kPart (RO : Option Int → DSt → Prop) : DV → DSt → Prop := fun x S1 => match x.int? with
  | some i => RO (some i) S1
  | none => False
theorem r_part (h : da S (kPart RO)) : dPart da S RO := h
theorem r_kPart (q : RO (some n) S) : kPart RO (dI n) S := q
theorem r_kSl {b : Bool} {lo hi : Option Int} (e : S.seq x = some (b, es)) (ei : allImm es = some ps) (q : R (.imm (if b = true then .list (cutD ps lo hi) else .tuple (cutD ps lo hi))) S) : kSl R x lo hi S := by
  unfold kSl gSl
  rw [e]
  dsimp only
  rw [ei]; exact q
/-! ranges -/
def kRg1 (RR : Int → Int → DSt → Prop) : DV → DSt → Prop := fun x S1 => match x.int? with
  | some j => RR 0 j S1
  | none => False
theorem r_rg1 (h : da S (kRg1 RR)) : dRg1 da S RR := h
theorem r_kRg1 (q : RR 0 n S) : kRg1 RR (dI n) S := q
def kRg2 (RR : Int → Int → DSt → Prop) (x : DV) : DV → DSt → Prop := fun y S2 => match x.int?, y.int? with
  | some i, some j => RR i j S2
  | _, _ => False
theorem r_rg2 (h : da S fun x S1 => db S1 (kRg2 RR x)) : dRg2 da db S RR := h
theorem r_kRg2 (q : RR m n S) : kRg2 RR (dI m) (dI n) S := q
def kRev (RI : List DY → (DSt → Prop) → DSt → Prop) : Int → Int → DSt → Prop := fun a b S1 => (-(2 ^ 62) ≤ a ∧ a < 2 ^ 62 ∧ -(2 ^ 62) ≤ b ∧ b < 2 ^ 62) ∧ RI (rangeCD (a + (((b - a).toNat : Nat) : Int) - 1) (-1) (b - a).toNat) (fun _ => True) S1
theorem r_rev (h : rg S (kRev RI)) : diRevR rg S RI := h
theorem r_kRev (hb : -(2 ^ 62) ≤ m ∧ m < 2 ^ 62 ∧ -(2 ^ 62) ≤ n ∧ n < 2 ^ 62) (q : RI (rangeCD (m + (((n - m).toNat : Nat) : Int) - 1) (-1) (n - m).toNat) (fun _ => True) S) : kRev RI m n S := ⟨hb, q⟩
def kLstRg (R : DV → DSt → Prop) : Int → Int → DSt → Prop := fun a b S1 => RgOk a b ∧ (R (.imm (.list (rgD a b))) S1 ∨ R (.cell S1.μ.length) (S1.new (.lst ((rgD a b).map DV.imm))))
theorem r_lstRg (h : rg S (kLstRg R)) : dLstRg rg S R := h
theorem r_kLstRg (hb : RgOk m n) (q : R (.imm (.list (rgD m n))) S) : kLstRg R m n S := ⟨hb, .inl q⟩
def kTupRg (R : DV → DSt → Prop) : Int → Int → DSt → Prop := fun a b S1 => RgOk a b ∧ R (.imm (.tuple (rgD a b))) S1
theorem r_tupRg (h : rg S (kTupRg R)) : dTupRg rg S R := h
theorem r_kTupRg (hb : RgOk m n) (q : R (.imm (.tuple (rgD m n))) S) : kTupRg R m n S := ⟨hb, q⟩
theorem r_newD (q : R (.cell S.μ.length) (S.new (.dic []))) : dNewD S R := q
/-! a call that hands over one cell -/
theorem r_callC {o : DO} {es es' : List DV} (hk : k < S.μ.length) (hr : renDs [k] es = some es') (hc : cellsOf S.μ [k] = [some o]) (q : dsp es' [some o] (retK R S [k])) : ∃ ks, kCall dsp R (es ++ []) S ks := ⟨[k], by
  unfold kCall
  rw [List.append_nil, hr]
  refine ⟨by simp, fun j hj => by rw [List.mem_singleton.mp hj]; exact hk, ?_⟩
  rw [hc]
  exact q⟩
/-- what comes back: data, and the cell as it is now -/
theorem r_retC {p : PyData} {o : DO} {μ' : List (Option DO)} (hb : o.bare = true) (hm : μ'[0]? = some (some o)) (q : R (.imm p) ⟨S.ρ, S.μ.set k (some o)⟩) : retK R S [k] (.imm p) μ' := by
  show R (.imm p) ⟨S.ρ, backs S.μ [k] μ'⟩
  have e : backs S.μ [k] μ' = S.μ.set k (some o) := by
    show S.μ.set k _ = _
    rw [hm]
    dsimp only
    rw [if_pos hb]
  rw [e]; exact q
/-! one road for many: what is known behind a reading, said once -/
theorem r_cases {de : DTE} (Y : DV → DSt → Prop) (h1 : ∀ R' : DV → DSt → Prop, (∀ d S', Y d S' → R' d S') → de S R') (h2 : ∀ d S', Y d S' → R d S') : de S R := h1 R h2
theorem r_casesS (Y : DSt → Prop) (h1 : ∀ nx : DSt → Prop, (∀ S', Y S' → nx S') → ds { D with nx := nx } S) (h2 : ∀ S', Y S' → D.nx S') : ds D S := h1 D.nx h2
/-- a bool that changes nothing, whatever it is -/
theorem r_bool {de : DTE} (Pb : Bool → Prop) (h1 : ∀ R' : DV → DSt → Prop, (∀ b, Pb b → R' (dB b) S) → de S R') (h2 : ∀ b, Pb b → R (dB b) S) : de S R := h1 R h2
theorem shaped_ints (ns : List Int) : SeqAt.shaped (.list (ns.map PyData.int)) = true := by
  have h : ∀ ns : List Int, PyData.canLayAll0 (ns.map PyData.int) = true ∧ PyData.depthAll (ns.map PyData.int) = 0 := by
    intro ns
    induction ns with
    | nil => exact ⟨rfl, rfl⟩
    | cons n ns ih => exact ⟨by simp [PyData.canLayAll0, PyData.canLay0, ih.1], by simp [PyData.depthAll, PyData.depth, ih.2]⟩
  obtain ⟨a, b⟩ := h ns
  simp [SeqAt.shaped, PyData.canLay0, PyData.depth, a, b]
theorem eqv_nil (ns : List Int) : PyData.eqv (.list (ns.map PyData.int)) (.list []) = decide (ns = []) := by
  cases ns with
  | nil => simp [PyData.eqv, PyData.eqvAll]
  | cons n ns => simp [PyData.eqv, PyData.eqvAll]
theorem r_eqNil {ns : List Int} (q : R (dB (decide (ns = []))) S) : gEqX (.imm (.list (ns.map PyData.int))) (.imm (.list [])) S R := by
  refine r_eq (fun _ z => nomatch z) ?_ ?_
  · rw [shaped_ints]; rfl
  · rw [eqv_nil]; exact q
theorem dat_ints {ns : List Int} (e : S.cell k = some (.lst (ns.map dI))) : S.dat (.cell k) = some (.list (ns.map PyData.int)) := by
  show (match S.cell k with | some (.lst ds) => (allImm ds).map PyData.list | _ => none) = _
  rw [e]
  have : allImm (ns.map dI) = some (ns.map PyData.int) := by
    have := allImm_map (ns.map PyData.int)
    rwa [List.map_map] at this
  show (allImm (ns.map dI)).map PyData.list = _
  rw [this]; rfl
theorem r_neNilC {ns : List Int} (e : S.cell k = some (.lst (ns.map dI))) (q : R (dB (!decide (ns = []))) S) : gNeX (.cell k) (.imm (.list [])) S R := by
  refine r_neL rfl (dat_ints e) rfl ?_ ?_
  · rw [shaped_ints]; rfl
  · rw [eqv_nil]; exact q
theorem r_addLI {a b : List PyData} (hz : a.length + b.length ≤ sizeLine) (q : R (.imm (.list (a ++ b))) S) : gOr gAdd gAddC (.imm (.list a)) (.imm (.list b)) S R := .inl (by
  show (a.map DV.imm).length + (b.map DV.imm).length ≤ sizeLine ∧ match allImm (a.map DV.imm ++ b.map DV.imm) with | some ps => R (.imm (.list ps)) S | none => False
  rw [← List.map_append, allImm_map]
  exact ⟨by simpa using hz, q⟩)
/-! in, not in, over ints -/
theorem inD_int (z : Int) (ns : List Int) : inD (.int z) (ns.map PyData.int) = decide (z ∈ ns) := by
  unfold inD
  induction ns with
  | nil => simp
  | cons n ns ih =>
    rw [List.map_cons, List.any_cons, ih]
    by_cases c : z = n
    · subst c; simp [PyData.eqv]
    · have : ¬ n = z := fun e => c e.symm
      simp [PyData.eqv, c, this]
theorem r_inI {neg b : Bool} {z : Int} {ns : List Int} (hd : S.dict y = none) (e : S.seq y = some (b, es)) (hi : allI es = some ns) (q : R (dB (if neg = true then !decide (z ∈ ns) else decide (z ∈ ns))) S) : gInA neg (dI z) y S R := by
  have ei : ∀ {es : List DV} {ns : List Int}, allI es = some ns → allImm es = some (ns.map PyData.int) := by
    intro es
    induction es with
    | nil => intro ns h; cases h; rfl
    | cons e es ih =>
      intro ns h
      cases e with
      | imm d =>
        cases d with
        | int i =>
          have h' : (allI es).map (i :: ·) = some ns := h
          obtain ⟨l, l1, l2⟩ := Option.map_eq_some_iff.mp h'
          subst l2
          show (allImm es).map _ = _
          rw [ih l1]; rfl
        | _ => cases h
      | _ => cases h
  unfold gInA
  rw [hd]
  dsimp only
  unfold gIn
  rw [show (dI z).imm? = some (.int z) from rfl, e]
  dsimp only
  rw [ei hi]
  dsimp only
  rw [inD_int]
  refine ⟨.inl ?_, q⟩
  rw [Bool.and_eq_true]
  exact ⟨rfl, by rw [List.all_map]; exact List.all_eq_true.mpr fun _ _ => rfl⟩
/-! while -/
theorem r_while (I : Nat → DSt → Prop) (m : Nat) (h0 : I m S) (hs : ∀ m S1, I m S1 → dt S1 fun b S2 => if b = true then ds { D with nx := fun S3 => ∃ m', m' < m ∧ I m' S3, ct := fun S3 => ∃ m', m' < m ∧ I m' S3, bk := D.nx } S2 else D.nx S2) : dWhile dt ds D S := ⟨I, ⟨m, h0⟩, hs⟩
def kPar (i j : Nat) (RS : DSt → Prop) : List DV → DSt → Prop := fun ds S1 => match ds with
  | [d, e] => RS ((S1.set i d).set j e)
  | _ => False
theorem r_par {i j : Nat} (h : dr S (kPar i j D.nx)) : dPar i j dr D S := h
theorem r_kPar {i j : Nat} (h : RS ((S.set i x).set j y)) : kPar i j RS [x, y] S := h
def kParN (js : List Nat) (RS : DSt → Prop) : List DV → DSt → Prop := fun ds S1 => ds.length ≤ sizeLine ∧ match setN S1 js ds with
  | some S2 => RS S2
  | none => False
theorem r_parN {js : List Nat} (h : dr S (kParN js D.nx)) : dParN js dr D S := h
theorem r_kParN {js : List Nat} {es : List DV} {S2 : DSt} (hz : es.length ≤ sizeLine) (e : setN S js es = some S2) (h : RS S2) : kParN js RS es S := ⟨hz, by rw [e]; exact h⟩
theorem r_max {m n : Int} {f : Int → Int → Int} (q : R (dI (f m n)) S) : gII2 f [dI m, dI n] S R := q
end
end DL

set_option Elab.async false
set_option linter.all false
set_option maxRecDepth 100000
set_option autoImplicit false
set_option maxHeartbeats 2000000
namespace DL
open PySem PySem.Spec L2 PyProof.Rows

/-! ## a value that is data from now on: freezing as it is read -/
def dFzE (P : Program) (w : World) (K : PySem.W.Frag) (de : DTE) : DTE := fun S R => de S fun d S1 => ∃ d' S', Wk P w K d S1 d' S' ∧ R d' S'
section
variable {X : Cx} {e : Expr} {de : DTE}
theorem DE.fz (h : DE X e de) : DE X e (dFzE X.prog X.w X.K de) := by
  obtain ⟨t, a1, a2⟩ := h.ex
  refine ⟨t, a1, fun B S σ ts H R Q o hd k => a2 B S σ ts H _ _ o hd fun v d S1 H1 q o => ?_⟩
  obtain ⟨d', S', hw, q⟩ := q
  obtain ⟨F, α, o⟩ := o
  obtain ⟨F', o', v', ex⟩ := hw B σ ts H1 v F α (o.sub mem1) o.top
  exact k v d' S' H1 q (o'.add v').ok
end
section
variable {P : Program} {w : World} {K : PySem.W.Frag} {S : DSt} {R : DV → DSt → Prop} {de : DTE} {d : DV} {p : PyData}
theorem r_fz (h : de S fun d S1 => ∃ d' S', Wk P w K d S1 d' S' ∧ R d' S') : dFzE P w K de S R := h
theorem r_fzVar {i k : Nat} {es : List DV} {ps : List PyData} (hg : S.get i = some (.cell k)) (hc : S.cell k = some (.lst es)) (ei : allImm es = some ps) (q : R (.imm (.list ps)) (S.less [k])) : dFzE P w K (dVar i) S R := by
  refine r_fz (r_var hg ⟨_, _, .fix [k] (.lst (by simp) hc (?_ : FzAll S [k] es ps)) , q⟩)
  clear hc q
  induction es generalizing ps with
  | nil => cases ei; exact .nil
  | cons e es ih =>
    cases e with
    | imm a =>
      have h' : (allImm es).map (a :: ·) = some ps := ei
      obtain ⟨l, l1, l2⟩ := Option.map_eq_some_iff.mp h'
      subst l2
      exact .cons (.imm a) (ih l1)
    | _ => cases ei
theorem r_noFz (h : de S R) (hm : Mono de) : dFzE P w K de S R := hm S _ _ (fun d S1 q => ⟨d, S1, .refl, q⟩) h
end
end DL

set_option Elab.async false
set_option linter.all false
set_option maxRecDepth 100000
set_option autoImplicit false
set_option maxHeartbeats 2000000
namespace DL
open PySem PySem.Spec L2 PyProof.Rows

/-! ## len of a set -/
def gLenS (w : World) : DC1 := fun ds S R => match ds with
  | [.obj φ] => ∃ (f : Int → Bool) (c : Nat), (φ = fun b => SetO w b f c) ∧ R (dI c) S
  | _ => False
section
variable {X : Cx}
theorem call_lenS : CallR X (.builtin "len") (fun xs H Q => ∃ (a : Addr) (f : Int → Bool) (c : Nat), xs = [V.ref a] ∧ H a = some (SetO X.w a f c) ∧ Q (.int c) H) := by
  intro pins s σ H xs us Q I r h
  obtain ⟨a, f, c, rfl, ha, q⟩ := h
  obtain ⟨o, es, ep, t, ho, hex, hd, _, _, _, hz, hf, hn, _⟩ := setO_get I ha
  rw [Vals.ref1 r]
  subst hn
  have hz : es.size < 4096 := hz
  exact call_len_set ho hex hd hf (by omega) ⟨.int es.size, H, I.tok _, ⟨_, rfl⟩, q⟩
theorem cd_lenS : CallD X (.builtin "len") (gLenS X.w) := ⟨_, call_lenS, fun B S σ ts H xs ds R Q hl h hd k => by
  unfold gLenS at hd
  split at hd
  · rename_i φ
    match xs, hl with
    | [y], _ =>
      obtain ⟨F, α, h⟩ := h
      obtain ⟨b, rfl, h2⟩ := (show ∃ b, y = .ref b ∧ F b = some (φ b) from h.tm (y, .obj φ) (by simp))
      obtain ⟨f, c, rfl, hd⟩ := hd
      exact ⟨b, f, c, rfl, h.fh _ _ h2, k _ _ S H hd ((h.sub memA).add vint).ok⟩
  · exact hd.elim⟩
end
section
variable {w : World} {S : DSt} {R : DV → DSt → Prop}
theorem r_lenS {f : Int → Bool} {c : Nat} (q : R (dI c) S) : gLenS w [.obj fun b => SetO w b f c] S R := ⟨f, c, rfl, q⟩
/-- x += y for ints -/
theorem r_aug {D : DEnds} {i : Nat} {x : DV} {g : D2} {de : DTE} (e : S.get i = some x) (h : de S fun y S1 => g x y S1 fun z S2 => D.nx (S2.set i z)) : dAug i g de D S := by
  unfold dAug
  rw [e]; exact h
theorem r_gII {f : Int → Int → DV} {m n : Int} (q : R (f m n) S) : gII (fun _ _ => True) f (dI m) (dI n) S R := ⟨trivial, q⟩
theorem r_divmod {m n : Int} (h : DivOk m n) (q : R (.imm (.tuple [.int (m / n), .int (m % n)])) S) : gDivmod [dI m, dI n] S R := ⟨h, q⟩
end
end DL

set_option Elab.async false
set_option linter.all false
set_option maxRecDepth 100000
set_option autoImplicit false
set_option maxHeartbeats 2000000
namespace DL
open PySem PySem.Spec L2 PyProof.Rows

/-! ## {k: v for x in xs}, the keys ints, texts, bools, None -/
/-- what a turn of the block asks: the target is set, the tests asked, and where they hold key and value are stored in D -/
def turnL (P : Program) (w : World) (D : Addr) (g : TG) (tt : TT) (tk tv : TE) (vs : List Nat) (σ0 : L2.St) (Nx : Hp → Prop) (x : V) (H : Hp) : Prop :=
  g x σ0 H fun σ2 H2 => wipe σ2 vs = σ0 ∧ tt σ2 H2 fun b H3 => if b = true then tk σ2 H3 fun y H4 => tv σ2 H4 fun z H5 => ∃ es l, y = kvV l ∧ H5 D = some (DicO P w D es) ∧ es.length < sizeLine ∧ Nx (upd H5 D (DicO P w D (putK es l z))) else Nx H3
def tDcL (P : Program) (w : World) (wi : TI) (g : TG) (tt : TT) (tk tv : TE) (vs : List Nat) : TE := fun σ H Q => wi σ H fun J H1 => ∀ D, H1 D = none → ∃ W : Nat → Nat → Hp → Prop, (∃ m, W 0 m (upd H1 D (DicO P w D []))) ∧
  ∀ i m H, W i m H → (J.stop i H ∧ Q (.ref D) H) ∨ (J.go i H ∧ ∃ Nx : Hp → Prop, (∀ H', Nx H' → ∃ m', m' < m ∧ W (i + 1) m' H') ∧ ∀ x H', J.yld i H x H' → turnL P w D g tt tk tv vs (wipe σ vs) Nx x H')
/-- the turn itself, in whatever context the block stands -/
theorem leaf_turn {Y : Cx} {tg kx vx : Expr} {ifs : List Expr} {g : TG} {tt : TT} {tk tv : TE} {J : It} {fp : List Addr} {it D : Addr} {tn : Nat → Heap → Prop} {vs : List Nat} {σ0 : L2.St} {H : Hp} {s : Shared} {i : Nat} {Nx : Hp → Prop} {N : Shared → Prop} {E : Value → Shared → Prop}
    (hx : Y.xe = fun _ _ => False) (hc : Y.calm = true) (pg : PG Y tg g) (pt : PTs Y ifs tt) (pk : PE Y kx tk) (pv : PE Y vx tv) (T : Turn Y.prog Y.w Y.K tg J fp it tn)
    (fok : ∀ H' : Hp, (∀ b ∈ fp, H' b = none) → ∀ b ∈ fp, FpOk Y [] H' b)
    (I : Inv Y [] σ0 H s) (n : ∀ b ∈ fp, H b = none) (st : tn i s.heap) (go : J.go i H) (ask : ∀ x H', J.yld i H x H' → turnL Y.prog Y.w D g tt tk tv vs σ0 Nx x H')
    (fin : ∀ s' H', Inv Y [] σ0 H' s' → tn (i + 1) s'.heap → (∀ b ∈ fp, H' b = none) → Nx H' → N s') :
    wpAny (model Y.prog Y.w) Y.A (pyNext (.ref it)) (fun r s1 => ∃ u, r = some u ∧ wpAny (model Y.prog Y.w) Y.A (letOwnedTupleGo tg (.ref it) u) (fun _ s2 => wpAny (model Y.prog Y.w) Y.A (assign tg Y.env u) (fun _ s3 =>
      wpAny (model Y.prog Y.w) Y.A (forIn ifs true fun c r => if r = true then do let ok ← isTrue c Y.env (eval c Y.env); pure (ForInStep.yield ok) else pure (ForInStep.yield r)) (fun ok s4 =>
        if ok = true then wpAny (model Y.prog Y.w) Y.A (eval kx Y.env) (fun a s5 => wpAny (model Y.prog Y.w) Y.A (eval vx Y.env) (fun b s6 => wpAny (model Y.prog Y.w) Y.A (dictSet D a b) (fun _ s7 => N s7) E s6) E s5) E s4 else N s4) E s3) E s2) E s1) E s := by
  have quiet : ∀ {α : Type} {t : Sem α} {Q Q' : α → Shared → Prop} {s0 : Shared}, wpAny (model Y.prog Y.w) Y.A t Q Y.xe s0 → (∀ a s', Q a s' → Q' a s') → wpAny (model Y.prog Y.w) Y.A t Q' E s0 := fun h q => thnF (hx ▸ h) q
  refine thnF (T.item Y rfl rfl rfl hc i [] s σ0 H (fun _ _ => False) I (fok H n) st go) fun r s1 hu => ?_
  obtain ⟨u, rfl, hu⟩ := hu
  refine ⟨u, rfl, thnF hu fun _ s2 hy => ?_⟩
  obtain ⟨x, H2, I2, rx, y, st2, n2⟩ := hy
  have objs := T.obj _ _ st2
  have kept := I2.pinned (fok H2 n2) objs
  refine quiet (pg.run _ s2 σ0 H2 x u _ kept rx (ask x H2 y)) fun _ s3 hs => ?_
  obtain ⟨σ3, H3, I3, back, q3⟩ := hs
  have close : ∀ {s' : Shared} {H' : Hp}, Inv Y ([] ++ pinsAt fp s2.heap) σ3 H' s' → Nx H' → N s' := fun {s' H'} I' nx => by
    have stay : ∀ b ∈ fp, H' b = none ∧ ∀ o, s2.heap.get? b = some o → s'.heap.get? b = some o := fun b hb => by
      obtain ⟨o, e, _⟩ := objs b hb
      have p := I'.pin (b, o) (List.mem_append_right _ (List.mem_append_right _ (mem_pinsAt hb e)))
      exact ⟨p.2.1, fun o' e' => (I'.pin (b, o') (List.mem_append_right _ (List.mem_append_right _ (mem_pinsAt hb e')))).1⟩
    refine fin s' H' ?_ (T.keep _ _ _ st2 fun b hb o e => (stay b hb).2 o e) (fun b hb => (stay b hb).1) nx
    have len : σ0.length = σ3.length := by rw [← back, wipe_length]
    exact I'.unpinned.weak len fun j v e => by
      rw [← back] at e
      exact (wipe_some e).1
  refine quiet (pt.run _ s3 σ3 H3 _ I3 q3) fun b s4 hb => ?_
  obtain ⟨H4, I4, q4⟩ := hb
  match b, q4 with
  | false, q4 => exact close I4 q4
  | true, q4 =>
    refine quiet (pk.run _ s4 σ3 H4 _ I4 q4) fun a s5 ha => ?_
    obtain ⟨ya, H5, I5, ra, q5⟩ := ha
    refine quiet (pv.run _ s5 σ3 H5 _ I5 q5) fun c s6 hz => ?_
    obtain ⟨yc, H6, I6, rc, es, l, el, hD, hz, nx⟩ := hz
    subst el
    exact dz_dictSet I6 hD hz ra rc fun s7 I7 => close I7 nx
section
variable {X : Cx}
theorem pe_dcL {kx vx tg iter : Expr} {ifs : List Expr} {scope : Scope} {own : List (Str × Nat)} {pos : Pos} {wi : TI} {g : TG} {tt : TT} {tk tv : TE} (hc : X.calm = true) (hN : X.N.Nodup) (hi : PI X tg iter wi) (ok : BlkOk X.N X.env.scope scope own)
    (inner : ∀ (s : Shared) (H : Hp) (C : Addr) (cl : List (Str × Addr)) (fp : List Addr), let Y := X.blk s H scope (compEnvC scope cl C X.env) fp; PG Y tg g ∧ PTs Y ifs tt ∧ PE Y kx tk ∧ PE Y vx tv) (hs : ∀ x, foldedSetIterable iter X.env x = pure x := by intro _; rfl) :
    PE X (.DictComp kx vx [⟨tg, iter, ifs, 0⟩] scope pos) (tDcL X.prog X.w wi g tt tk tv (own.map (·.2))) := by
  refine ⟨fun pins s σ H Q I h => ?_⟩
  have clo : ∀ y ∈ scope.names, y.2 = .free → ∃ c, X.env.cells.lookup y.1 = some c := fun y hy e => I.ok.has _ ((ok.free y hy e).imp id id)
  rw [arm_eval_DictComp]
  refine wpAny_comprehension_free (use := none) rfl hs (closure_ok clo) ok.kind (fun y hy e => by rw [ok.uniq y hy, e]) ?_
  refine thn (hi.run pins s σ H _ I h) fun _ _ hx => thn hx fun itv s1 hp => ?_
  obtain ⟨it, fp, tn, J, H1, rfl, I1, T, st, f1, q⟩ := hp
  -- the dict, then the block's own frame
  have top : H1 s1.heap.objs.size = none := I1.hok.fresh (Nat.le_refl _)
  obtain ⟨W, ⟨m0, w0⟩, turns⟩ := q _ top
  refine wpAny_newObj_type (newEnv_comp ?_)
  generalize eD : s1.heap.objs.size = D at top w0 turns ⊢
  let H2 : Hp := upd H1 D (DicO X.prog X.w D [])
  let s2 : Shared := { s1 with heap := s1.heap.push { cls := .type "dict", data := .dict #[] } }
  have old : ∀ b o, s1.heap.get? b = some o → s2.heap.get? b = some o := fun b o e => Heap.get?_push_of_some _ e
  have I2 : Inv X pins σ H2 s2 := by
    refine I1.laid (t' := s1.toks) old (Nat.le_of_eq eD) ?_
    have := dz_empty (X := X) (H := H1) s1.heap I1.big
    rw [eD] at this
    exact this
  have young : ∀ b ∈ fp, b < s1.heap.objs.size := fun b hb => let ⟨_, e, _⟩ := T.obj _ _ st b hb; Heap.lt_size e
  have f2 : ∀ b ∈ fp, FpOk X pins H2 b ∧ b < s2.heap.objs.size := fun b hb => by
    have lt := young b hb
    have ne : b ≠ D := Nat.ne_of_lt (eD ▸ lt)
    obtain ⟨z0, z1⟩ := f1 b hb
    exact ⟨⟨(upd_ne ne).trans z0, z1⟩, by show b < (s1.heap.push _).objs.size; rw [Heap.size_push]; exact Nat.lt_succ_of_lt lt⟩
  have IB := block_start I2 ok hN f2
  let C : Addr := s2.heap.objs.size
  let Y : Cx := X.blk s2 H2 scope (compEnvC scope (cellsFrom (C + 1) scope.names (cloFrom X.env.cells scope.names [])) C X.env) fp
  obtain ⟨pg, pt, pk, pv⟩ := inner s2 H2 C (cellsFrom (C + 1) scope.names (cloFrom X.env.cells scope.names [])) fp
  have stB : tn 0 (pushCells (s2.heap.push { cls := .type "dict", data := .dict #[] }) scope.names) := T.keep _ _ _ st fun b _ o e => pushCells_keeps _ _ _ _ (Heap.get?_push_of_some _ (old b o e))
  have fY : ∀ {σ' : L2.St} {s' : Shared} {H0 : Hp}, Inv Y [] σ' H0 s' → ∀ H' : Hp, (∀ b ∈ fp, H' b = none) → ∀ b ∈ fp, FpOk Y [] H' b := fun I' H' n b hb =>
    let z := I'.ok.exf b hb
    ⟨n b hb, z.1, I'.ok.exfs b hb, .inl hb, fun x c e => z.2 x c e, fun p hp => nomatch hp⟩
  have run : codeAny (model X.prog X.w) X.A (.compLoop (.DictComp kx vx [⟨tg, iter, ifs, 0⟩] scope pos) 0 (.ref it) (.ref D) Y.env) (compPost (model X.prog X.w) X.A X.xe none (EP X pins σ Q) (.ref D) C)
      { s2 with heap := pushCells (s2.heap.push { cls := .type "dict", data := .dict #[] }) scope.names } := by
    refine compLoop_anyD (fun n s' => ∃ i H', W i n H' ∧ Inv Y [] (wipe σ (own.map (·.2))) H' s' ∧ tn i s'.heap ∧ ∀ b ∈ fp, H' b = none) ?_ m0 ⟨0, H2, w0, IB, stB, fun b hb => (f2 b hb).1.1⟩
    rintro n s3 ⟨i, H3, w3, I3, st3, n3⟩
    rcases turns i n H3 w3 with ⟨stop, end_⟩ | ⟨go, Nx, next, ask⟩
    · refine thnF (T.done Y rfl rfl rfl hc i [] s3 _ H3 (fun _ _ => False) I3 (fY I3 H3 n3) st3 stop) fun r s4 hr => ?_
      obtain ⟨rfl, I4⟩ := hr
      -- the def goes on where the block stood
      have IX : Inv X pins σ H3 s4 := I2.call' (ch := fp) I4.os I4.base I4.hok I4.bare fun b hb => ⟨(f2 b hb).1.2.2.2.1, (f2 b hb).1.2.1, (f2 b hb).1.2.2.2.2.1, (f2 b hb).1.2.2.2.2.2⟩
      have nC : H3 C = none := I4.free
      obtain ⟨m, hm, _⟩ := I4.loc
      obtain ⟨z0, z1, _, z3, z4, z5⟩ := I2.fpOk (b := C) (Nat.le_refl _) nC
      exact ⟨m, hm, fun h' sb => ⟨.ref D, H3, IX.turned (t' := s4.toks) (fun b o hb e => (sb.2 b hb).trans e) z0 z1 z3 z4 z5, rfl, end_⟩⟩
    · refine thn (leaf_turn (Y := Y) (N := fun s' => ∃ m, m < n ∧ ∃ i H', W i m H' ∧ Inv Y [] (wipe σ (own.map (·.2))) H' s' ∧ tn i s'.heap ∧ ∀ b ∈ fp, H' b = none) rfl hc pg pt pk pv T (fY I3) I3 n3 st3 go ask fun s' H' I' t' n' nx => ?_) fun r s' hr => ?_
      · obtain ⟨m', lt, w'⟩ := next H' nx
        exact ⟨m', lt, i + 1, H', w', I', t', n'⟩
      · obtain ⟨u, rfl, hr⟩ := hr
        exact hr
  exact codeAny_compStart_dict run (T.self X.A 0 _ _ _ stB run)
end
/-! ### over data -/
def dDcL (di : DTI) (dg : DTG) (dt : DTT) (dk dv : DTE) (vs : List Nat) : DTE := fun S R => di S fun ys St S1 => ∃ I : Nat → List (Leaf × DV) → List (Option DO) → Prop, I 0 [] S1.μ ∧ (∀ i acc μ, i ≤ ys.length → I i acc μ → St ⟨wipeD S1.ρ vs, μ⟩) ∧
  (∀ i y acc μ, ys[i]? = some y → I i acc μ → dg y ⟨wipeD S1.ρ vs, μ⟩ fun S3 => dt S3 fun b S4 => if b = true then dk S4 fun kd S5 => dv S5 fun d S6 => match keyOf kd with
    | some l => I (i + 1) (putG acc l d) S6.μ
    | none => False else I (i + 1) acc S4.μ) ∧ ys.length < sizeLine ∧ ∀ acc μ, I ys.length acc μ → R (.cell μ.length) ⟨S1.ρ, μ ++ [some (.dic acc)]⟩
section
variable {P : Program} {w : World} {K : PySem.W.Frag} {B : Bs} {S S' : DSt} {σ : L2.St} {ts : List (V × DV)} {H F F' : Hp} {α : List Addr} {v : V} {d : DV} {wi : TI} {di : DTI} {g : TG} {dg : DTG} {js : List Nat}
/-- the values of a dict that is being made -/
def DcL (kvs : List (Leaf × V)) (es : List (Leaf × DV)) : List (V × DV) := (kvs.map (·.2)).zip (es.map (·.2))
theorem dcL_paired : ∀ {kvs : List (Leaf × V)} {es : List (Leaf × DV)}, kvs.map (·.1) = es.map (·.1) → (∀ p ∈ DcL kvs es, VOk P w K F α p.1 p.2) → Paired (KVOk P w K F α) kvs es
  | [], [], _, _ => .nil
  | [], _ :: _, h, _ => by simp at h
  | _ :: _, [], h, _ => by simp at h
  | p :: kvs, q :: es, h, hp => by
    simp only [List.map_cons, List.cons.injEq] at h
    exact .cons ⟨h.1, hp (p.2, q.2) (by simp [DcL])⟩ (dcL_paired h.2 fun z hz => hp z (by simp only [DcL, List.map_cons, List.zip_cons_cons, List.mem_cons]; exact .inr hz))
theorem mem_dcL : ∀ {kvs : List (Leaf × V)} {es : List (Leaf × DV)}, Paired (KVOk P w K F α) kvs es → ∀ p ∈ DcL kvs es, VOk P w K F α p.1 p.2
  | _, _, .nil, p, hp => by simp [DcL] at hp
  | a :: kvs, b :: es, .cons h1 t, p, hp => by
    simp only [DcL, List.map_cons, List.zip_cons_cons, List.mem_cons] at hp
    rcases hp with e | hp
    · subst e; exact h1.2
    · exact mem_dcL t p hp
theorem snd_dcL {tt : TT} {dt : DTT} {tk tv : TE} {dk dv : DTE} {vs : List Nat} (hi : SndI P w K wi di) (hg : SndG P w K js g dg) (ht : SndT P w K tt dt) (hk : SndE P w K tk dk) (he : SndE P w K tv dv) (hj : ∀ j ∈ js, j ∈ vs) :
    SndE P w K (tDcL P w wi g tt tk tv vs) (dDcL di dg dt dk dv vs) := fun B S σ ts H R Q h hd kk =>
  hi B S σ ts H _ _ h hd fun ys St S1 H1 J Gp Y us hr o wk hG hY => by
    obtain ⟨I, h0, hst, hs, hz, hdn⟩ := hr
    obtain ⟨F1, α1, o1⟩ := o
    intro D hD
    have b1 := o1.base
    have hF1 : F1 D = none := o1.freeF hD
    have hα1 : D ∉ α1 := fun q => o1.an D q hD
    let ρw := wipeD S1.ρ vs
    let B1 : Bs := ⟨F1, H1, α1⟩
    let Pv : Nat → Hp → Prop := fun i H2 => ∃ kvs es μ F α, I i es μ ∧ kvs.map (·.1) = es.map (·.1) ∧ kvs.length ≤ i ∧ StAt P w K B1 ⟨ρw, μ⟩ (wipe σ vs) (DcL kvs es ++ (us ++ ts)) H2 F α ∧ H2 D = some (DicO P w D kvs) ∧ F D = none ∧ D ∉ α
    have p0 : Pv 0 (upd H1 D (DicO P w D [])) := ⟨[], [], S1.μ, F1, α1, h0, rfl, Nat.le_refl _, ((b1.wipe vs).free hα1 hF1 hD), upd_same, hF1, hα1⟩
    refine ⟨fun i m H => m = ys.length - i ∧ i ≤ ys.length ∧ Pv i H, ⟨ys.length, by simp, Nat.zero_le _, p0⟩, ?_⟩
    rintro i m H2 ⟨rfl, hi', kvs, es, μ, F, α, q, hl, hli, o2, hD2, hF2, hα2⟩
    have gG : Gp H2 := hG B1 _ (wipe σ vs) H2 _ (fun p hp => List.mem_append_right _ (List.mem_append_left _ hp)) (hst i es μ hi' q) o2.ok
    by_cases hlt : i < ys.length
    · refine .inr ⟨wk.goes i H2 hlt gG, Pv (i + 1), fun H' p' => ⟨_, by omega, rfl, hlt, p'⟩, fun x H3 y => ?_⟩
      have y := wk.yields i H2 x H3 hlt gG y
      have b2 := o2.base
      obtain ⟨yy, e1, sy⟩ := hY ⟨F, H2, α⟩ i ⟨ρw, μ⟩ (wipe σ vs) H2 x H3 _ hlt (fun p hp => List.mem_append_right _ (List.mem_append_left _ hp)) (hst i es μ hi' q) b2.ok y
      refine hg _ _ _ _ H3 x yy _ _ sy (hs i yy es μ e1 q) fun S3 σ3 H4 q3 _ hw o3 => ⟨?_, ?_⟩
      · rw [hw vs hj, wipe_wipe σ vs vs fun _ z => z]
      · refine ht _ S3 σ3 _ H4 _ _ o3 q3 fun b S4 H5 q4 o4 => ?_
        cases b with
        | false =>
          obtain ⟨F5, α5, o5⟩ := o4
          obtain ⟨d1, d2, d3⟩ := o5.bc D _ hD2 hF2 hα2
          have o6 := o2.rebase o5
          refine ⟨kvs, es, S4.μ, F5, α5, q4, hl, Nat.le_succ_of_le hli, o6.slots (o2.len) (fun j e r => ?_), d1, d2, d3⟩
          obtain ⟨v, g1, g2⟩ := o2.sl j e r
          exact ⟨v, g1, o5.known g2⟩
        | true =>
          refine hk _ S4 σ3 _ H5 _ _ o4 q4 fun ky kd S5 H6 q5 o5 => ?_
          refine he _ S5 σ3 _ H6 _ _ o5 q5 fun y' d' S6 H7 q6 o6 => ?_
          obtain ⟨F7, α7, o7⟩ := o6
          obtain ⟨d1, d2, d3⟩ := o7.bc D _ hD2 hF2 hα2
          have o8 := o2.rebase o7
          cases e5 : keyOf kd with
          | none => rw [e5] at q6; exact q6.elim
          | some l =>
            rw [e5] at q6
            refine ⟨kvs, l, key_ok o7.top2 e5, d1, by omega, ?_⟩
            have hp0 : Paired (KVOk P w K F7 α7) kvs es := dcL_paired hl fun p hp => o7.tm p (List.mem_cons_of_mem _ (List.mem_cons_of_mem _ (List.mem_append_left _ hp)))
            have hp1 : Paired (KVOk P w K F7 α7) (putK kvs l y') (putG es l d') := putG_ok hp0 _ o7.top
            have hlen := length_putK kvs l y'
            have o9 : StAt P w K B1 ⟨ρw, S6.μ⟩ (wipe σ vs) _ H7 F7 α7 := o8.slots (o2.len) fun j e r => by
              obtain ⟨v, g1, g2⟩ := o2.sl j e r
              exact ⟨v, g1, o7.known g2⟩
            refine ⟨putK kvs l y', putG es l d', S6.μ, F7, α7, q6, pair_keys hp1, by omega, ?_, upd_same, d2, d3⟩
            have o10 := o9.free (o := DicO P w D (putK kvs l y')) d3 d2 hD
            refine { o10 with tm := fun z hz' => ?_ }
            rcases List.mem_append.mp hz' with hz' | hz'
            · exact mem_dcL hp1 z hz'
            · exact o9.tm z (List.mem_cons_of_mem _ (List.mem_cons_of_mem _ (List.mem_append_right _ hz')))
    · have e : i = ys.length := by omega
      subst e
      refine .inl ⟨wk.stops H2 gG, ?_⟩
      have hp : Paired (KVOk P w K F α) kvs es := dcL_paired hl fun p hp => o2.tm p (List.mem_append_left _ hp)
      have o3 : StAt P w K B1 ⟨S1.ρ, μ⟩ σ (us ++ ts) H2 F α := (o2.sub fun p hp => List.mem_append_right _ hp).slots o1.len fun j e r => by
        obtain ⟨v, g1, g2⟩ := o1.sl j e r
        exact ⟨v, g1, o2.known g2⟩
      have o4 := (o1.rebase o3).sub (fun p hp => List.mem_append_right us hp)
      have o5 := o4.adopt (o := .dic es) hα2 hF2 (by rw [hD2]; exact fun z => by cases z) (o1.freshB hD) ⟨kvs, hD2, paired_up (fun _ _ q => ⟨q.1, q.2.up (Ex.refl _)⟩) hp⟩
      exact kk _ _ _ _ (hdn es μ q) (o5.add (d := .cell μ.length) ⟨D, by rw [← o4.al, List.getElem?_append_right (Nat.le_refl _), Nat.sub_self]; rfl, rfl⟩).ok
end
section
variable {X : Cx} {dg : DTG} {dt : DTT} {dk dv : DTE} {js : List Nat}
theorem de_dcL {own : List (Str × Nat)} {ke ve tg iter : Expr} {ifs : List Expr} {scope : Scope} {pos : Pos} {di : DTI} (hc : X.calm = true) (hN : X.N.Nodup) (hi : DI X tg iter di) (ok : BlkOk X.N X.env.scope scope own)
    (blk : ∀ (s : Shared) (H : Hp) (C : Addr) (cl : List (Str × Addr)) (fp : List Addr), DG (blkX X scope s H C cl fp) tg js dg ∧ DTs (blkX X scope s H C cl fp) ifs dt ∧ DE (blkX X scope s H C cl fp) ke dk ∧ DE (blkX X scope s H C cl fp) ve dv)
    (hj : ∀ j ∈ js, j ∈ own.map (·.2)) (hs : ∀ x, foldedSetIterable iter X.env x = pure x := by intro _; rfl) : DE X (.DictComp ke ve [⟨tg, iter, ifs, 0⟩] scope pos) (dDcL di dg dt dk dv (own.map (·.2))) := by
  obtain ⟨wi, a1, a2⟩ := hi.ex
  have b := blk
  exact ⟨_, pe_dcL (g := canG X.prog X.w X.K js dg) (tt := canT X.prog X.w X.K dt) (tk := canE X.prog X.w X.K dk) (tv := canE X.prog X.w X.K dv) hc hN a1 ok (fun s H C cl fp => ⟨(b s H C cl fp).1.can, (b s H C cl fp).2.1.can, (b s H C cl fp).2.2.1.can, (b s H C cl fp).2.2.2.can⟩) hs, snd_dcL a2 (snd_canG js dg) (snd_canT dt) (snd_canE dk) (snd_canE dv) hj⟩
end
section
variable {S : DSt} {R : DV → DSt → Prop} {di : DTI} {dg : DTG} {dt : DTT} {dk dv : DTE} {vs : List Nat} {RD : List (Leaf × DV) → DSt → Prop}
def DcLK (dg : DTG) (dt : DTT) (dk dv' : DTE) (vs : List Nat) (R : List (Leaf × DV) → DSt → Prop) (ys : List DY) (St : DSt → Prop) (S1 : DSt) : Prop := ∃ I : Nat → List (Leaf × DV) → List (Option DO) → Prop, I 0 [] S1.μ ∧ (∀ i acc μ, i ≤ ys.length → I i acc μ → St ⟨wipeD S1.ρ vs, μ⟩) ∧
  (∀ i y acc μ, ys[i]? = some y → I i acc μ → dg y ⟨wipeD S1.ρ vs, μ⟩ fun S3 => dt S3 fun b S4 => if b = true then dk S4 fun kd S5 => dv' S5 fun d S6 => match keyOf kd with
    | some l => I (i + 1) (putG acc l d) S6.μ
    | none => False else I (i + 1) acc S4.μ) ∧ ys.length < sizeLine ∧ ∀ acc μ, I ys.length acc μ → R acc ⟨S1.ρ, μ⟩
theorem r_dcL (k : di S (DcLK dg dt dk dv vs fun acc S1 => R (.cell S1.μ.length) (S1.new (.dic acc)))) : dDcL di dg dt dk dv vs S R := k
end
end DL

set_option Elab.async false
set_option linter.all false
set_option maxRecDepth 100000
set_option autoImplicit false
set_option maxHeartbeats 2000000
namespace DL
open PySem PySem.Spec L2 PyProof.Rows

/-! ## a call that gives back a thing with new cells in it -/
/-- a callee's cell under the caller's number -/
def rnD (m : List (Nat × Nat)) : DV → Option DV
  | .cell j => (m.lookup j).map .cell
  | d => some d
def rnDs (m : List (Nat × Nat)) : List DV → Option (List DV)
  | [] => some []
  | d :: ds => match rnD m d, rnDs m ds with
    | some d', some ds' => some (d' :: ds')
    | _, _ => none
def rnKs (m : List (Nat × Nat)) : List (Leaf × DV) → Option (List (Leaf × DV))
  | [] => some []
  | p :: ps => match rnD m p.2, rnKs m ps with
    | some d', some ps' => some ((p.1, d') :: ps')
    | _, _ => none
def rnO (m : List (Nat × Nat)) : DO → Option DO
  | .lst ds => (rnDs m ds).map .lst
  | .dic kvs => (rnKs m kvs).map .dic
  | _ => none
/-- the cells js, one behind the other, put behind the caller's -/
def plant (μ' : List (Option DO)) : List Nat → List (Nat × Nat) → List (Option DO) → Option (List (Nat × Nat) × List (Option DO))
  | [], m, μ => some (m, μ)
  | j :: js, m, μ => match μ'[j]? with
    | some (some o) => match rnO m o with
      | some o' => plant μ' js ((j, μ.length) :: m) (μ ++ [some o'])
      | none => none
    | _ => none
def handed (ks : List Nat) : List (Nat × Nat) := ks.mapIdx fun i k => (i, k)
def kCallT (dsp : DSp) (R : DV → DSt → Prop) (ds : List DV) (S1 : DSt) (ks : List Nat) : Prop := match renDs ks ds with
  | none => False
  | some ds' => ks.Nodup ∧ (∀ k ∈ ks, k < S1.μ.length) ∧ dsp ds' (cellsOf S1.μ ks) fun d μ' => ∃ js, js.Nodup ∧ (∀ j ∈ js, ks.length ≤ j) ∧ match plant μ' js (handed ks) (backs S1.μ ks μ') with
    | some (m, μ2) => match rnD m d with
      | some d' => R d' ⟨S1.ρ, μ2⟩
      | none => False
    | none => False
def dCallT (dsp : DSp) (dvs : List DV) (da : DTA) : DTE := fun S R => da S fun ds S1 => ∃ ks, kCallT dsp R (ds ++ dvs) S1 ks
section
variable {P : Program} {w : World} {K : PySem.W.Frag} {B : Bs} {S S' : DSt} {σ : L2.St} {ts : List (V × DV)} {H F F' : Hp} {α β : List Addr} {v : V} {d : DV} {m : List (Nat × Nat)}
/-- the numbers tell the same address -/
def Same (m : List (Nat × Nat)) (β α : List Addr) : Prop := ∀ j k, m.lookup j = some k → ∃ a, β[j]? = some a ∧ α[k]? = some a
theorem Same.ext (h : Same m β α) (a : Addr) : Same m β (α ++ [a]) := fun j k e => by
  obtain ⟨b, b1, b2⟩ := h j k e
  exact ⟨b, b1, by rw [List.getElem?_append_left (List.getElem?_eq_some_iff.mp b2).1]; exact b2⟩
theorem rnD_ok (hs : Same m β α) (h : VOk P w K F β v d) {d' : DV} (e : rnD m d = some d') : VOk P w K F α v d' := by
  cases d with
  | cell j =>
    obtain ⟨k, k1, rfl⟩ := Option.map_eq_some_iff.mp (show (m.lookup j).map DV.cell = some d' from e)
    obtain ⟨a, a1, a2⟩ := h
    obtain ⟨b, b1, b2⟩ := hs j k k1
    cases a1.symm.trans b1
    exact ⟨a, b2, a2⟩
  | imm d => cases e; exact h
  | raw u => cases e; exact h
  | obj φ => cases e; exact h
  | scr ns => cases e; exact h
theorem rnDs_ok (hs : Same m β α) : ∀ {xs : List V} {ds ds' : List DV}, Paired (VOk P w K F β) xs ds → rnDs m ds = some ds' → Paired (VOk P w K F α) xs ds'
  | _, _, _, .nil, e => by cases e; exact .nil
  | _, d :: ds, ds', .cons h t, e => by
    have e : (match rnD m d, rnDs m ds with | some d', some ds' => some (d' :: ds') | _, _ => none) = some ds' := e
    split at e
    · rename_i a b e1 e2
      cases e
      exact .cons (rnD_ok hs h e1) (rnDs_ok hs t e2)
    · cases e
theorem rnKs_ok (hs : Same m β α) : ∀ {xs : List (Leaf × V)} {ds ds' : List (Leaf × DV)}, Paired (fun p q => p.1 = q.1 ∧ VOk P w K F β p.2 q.2) xs ds → rnKs m ds = some ds' → Paired (fun p q => p.1 = q.1 ∧ VOk P w K F α p.2 q.2) xs ds'
  | _, _, _, .nil, e => by cases e; exact .nil
  | _, d :: ds, ds', .cons h t, e => by
    have e : (match rnD m d.2, rnKs m ds with | some d', some ps' => some ((d.1, d') :: ps') | _, _ => none) = some ds' := e
    split at e
    · rename_i a b e1 e2
      cases e
      exact .cons ⟨h.1, rnD_ok hs h.2 e1⟩ (rnKs_ok hs t e2)
    · cases e
theorem rnO_ok {a : Addr} {o o' : DO} (hs : Same m β α) (h : COk P w K F β H a o) (e : rnO m o = some o') : COk P w K F α H a o' := by
  cases o with
  | lst ds =>
    obtain ⟨ds', e1, rfl⟩ := Option.map_eq_some_iff.mp (show (rnDs m ds).map DO.lst = some o' from e)
    obtain ⟨xs, h1, h2⟩ := h
    exact ⟨xs, h1, rnDs_ok hs h2 e1⟩
  | dic kvs =>
    obtain ⟨ps', e1, rfl⟩ := Option.map_eq_some_iff.mp (show (rnKs m kvs).map DO.dic = some o' from e)
    obtain ⟨xs, h1, h2⟩ := h
    exact ⟨xs, h1, rnKs_ok hs h2 e1⟩
  | ins C fs => cases e
  | ho φ => cases e
  | lck ob kvs => cases e
theorem lookup_cons {j k i : Nat} {m : List (Nat × Nat)} : ((j, k) :: m).lookup i = if i = j then some k else m.lookup i := by
  rw [List.lookup_cons]
  by_cases c : i = j
  · subst c; simp
  · rw [if_neg c, show (i == j) = false from beq_eq_false_iff_ne.mpr c]
theorem plant_ok {μ' : List (Option DO)} {ρ ρ' : List (Option DV)} {B' : Bs} {σ' : L2.St} {us : List (V × DV)} (z : StAt P w K B' ⟨ρ', μ'⟩ σ' us H F β) :
    ∀ (js : List Nat) (m : List (Nat × Nat)) (μ : List (Option DO)) (α : List Addr), js.Nodup → StAt P w K B ⟨ρ, μ⟩ σ ts H F α → Same m β α → (∀ j ∈ js, ∀ a, β[j]? = some a → a ∉ α ∧ B.H a = none) →
    ∀ {m2 : List (Nat × Nat)} {μ2 : List (Option DO)}, plant μ' js m μ = some (m2, μ2) → ∃ α2, StAt P w K B ⟨ρ, μ2⟩ σ ts H F α2 ∧ Same m2 β α2
  | [], m, μ, α, _, o, hs, _, m2, μ2, e => by cases e; exact ⟨α, o, hs⟩
  | j :: js, m, μ, α, nd, o, hs, hn, m2, μ2, e => by
    obtain ⟨n1, n2⟩ := List.nodup_cons.mp nd
    unfold plant at e
    split at e
    · rename_i u e1
      split at e
      · rename_i u' e2
        obtain ⟨a, a1, a2, a3⟩ := z.ce j u e1
        obtain ⟨na, ba⟩ := hn j List.mem_cons_self a a1
        have o1 := o.adopt (o := u') na a2 (z.an a (List.mem_of_getElem? a1)) ba (rnO_ok (hs.ext a) a3 e2)
        refine plant_ok z js _ _ (α ++ [a]) n2 o1 (fun i k q => ?_) (fun i hi b b1 => ?_) e
        · rw [lookup_cons] at q
          by_cases c : i = j
          · subst c
            rw [if_pos rfl] at q
            cases q
            exact ⟨a, a1, by rw [← o.al, List.getElem?_append_right (Nat.le_refl _), Nat.sub_self]; rfl⟩
          · rw [if_neg c] at q
            exact hs.ext a i k q
        · obtain ⟨g1, g2⟩ := hn i (List.mem_cons_of_mem _ hi) b b1
          refine ⟨fun q => ?_, g2⟩
          rcases List.mem_append.mp q with q | q
          · exact g1 q
          · rw [List.mem_singleton.mp q] at b1
            exact n1 (nd_at z.nd b1 a1 ▸ hi)
      · cases e
    · cases e
theorem handed_lookup : ∀ (ks : List Nat) (n j : Nat), (ks.mapIdx fun i k => (i + n, k)).lookup (j + n) = ks[j]?
  | [], n, j => by simp
  | k :: ks, n, j => by
    rw [List.mapIdx_cons]
    rw [show (fun i k => (i + 1 + n, k)) = fun (i k : Nat) => (i + (n + 1), k) by funext i k; congr 1; omega]
    rw [lookup_cons]
    cases j with
    | zero => simp
    | succ j =>
      rw [if_neg (by omega), show j + 1 + n = j + (n + 1) by omega, handed_lookup ks (n + 1) j]
      simp
theorem handed_get (ks : List Nat) (j : Nat) : (handed ks).lookup j = ks[j]? := handed_lookup ks 0 j
theorem snd_callT {ta : TA} {da : DTA} {dsp : DSp} {dvs : List V} {dds : List DV} {E : XK} (ha : SndA P w K ta da) (hdv : ∀ (F : Hp) (α : List Addr), Paired (VOk P w K F α) dvs dds) :
    SndE P w K (tCall (spD P w K dsp) dvs E ta) (dCallT dsp dds da) := fun B S σ ts H R Q h hd k =>
  ha B S σ ts H _ _ h hd fun vs ds S1 H1 hl q o => by
    obtain ⟨ks, q⟩ := q
    unfold kCallT at q
    cases e : renDs ks (ds ++ dds) with
    | none => rw [e] at q; exact q.elim
    | some ds' =>
      rw [e] at q
      obtain ⟨nk, hk, q⟩ := q
      obtain ⟨F, α, o⟩ := o
      have o' : StAt P w K B S1 σ ts H1 F α := o.sub memA
      have oc := o'.callee (Paired.app' (o.args hl) (hdv F α)) nk hk e
      refine ⟨F, adrs α ks, ds', cellsOf S1.μ ks, _, oc, ?_, q, fun v d ρ σ' μ' H' r z => ?_⟩
      · have := oc.len
        rw [List.length_map, List.length_map] at this
        exact this.symm
      · obtain ⟨F', β, z⟩ := z
        obtain ⟨js, nj, hj, r⟩ := r
        have ob := o'.back nk hk z
        have hk' : ∀ k ∈ ks, k < α.length := fun k y => by rw [o'.al]; exact hk k y
        have pre : β.take (adrs α ks).length = adrs α ks := z.bp
        have al : (adrs α ks).length = ks.length := by unfold adrs; rw [List.length_map]
        have same : Same (handed ks) β α := fun j k q => by
          rw [handed_get] at q
          have jl := (List.getElem?_eq_some_iff.mp q).1
          have e1 := adrs_get hk' q
          have kl := hk' k (List.mem_of_getElem? q)
          refine ⟨α[k], ?_, List.getElem?_eq_getElem kl⟩
          have e2 : (β.take (adrs α ks).length)[j]? = some α[k] := by rw [pre, e1, List.getElem?_eq_getElem kl]
          rwa [List.getElem?_take_of_lt (by rw [al]; exact jl)] at e2
        have fresh : ∀ j ∈ js, ∀ a, β[j]? = some a → a ∉ α ∧ B.H a = none := fun j hjj a a1 => by
          have hn : H1 a = none := by
            rcases z.bn a (List.mem_of_getElem? a1) with y | y
            · exfalso
              obtain ⟨i, hi, ei⟩ := List.mem_iff_getElem.mp (show a ∈ adrs α ks from y)
              have h3 : β[i]? = some a := by
                have : (β.take (adrs α ks).length)[i]? = some a := by rw [pre, List.getElem?_eq_getElem hi, ei]
                rwa [List.getElem?_take_of_lt hi] at this
              have := nd_at z.nd h3 a1
              have := hj j hjj
              rw [al] at hi
              omega
            · exact y
          exact ⟨fun y => o'.an a y hn, o'.freshB hn⟩
        split at r
        · rename_i m2 μ2 e2
          split at r
          · rename_i d' e3
            obtain ⟨α2, o2, s2⟩ := plant_ok z js (handed ks) _ α nj ob same fresh e2
            exact k v d' _ H' r (o2.add (rnD_ok s2 z.top e3)).ok
          · exact r.elim
        · exact r.elim
end
section
variable {X : Cx} {e : Expr} {es : List Expr} {da : DTA} {pos : Pos}
theorem de_callT {k : Nat} {f : Addr} {fd : FuncData} {ps : List Str} {dsp : DSp} {ds : List Value} {dvs : List V} {dds : List DV} {x : Str} {p : Pos}
    (F : DFn X.prog X.w X.K X.mg X.base k f fd ps dsp) (hr : Room k X.A) (hgd : X.A.guards = some []) (hg : Gl X x) (hm : X.mg x = some (.ref f)) (hk : PySem.W.keepIn X.K (.ref f) = true) (hb : Binds X.K fd ps ds) (hd : Vals dvs ds) (hdv : ∀ (F : Hp) (α : List Addr), Paired (VOk X.prog X.w X.K F α) dvs dds)
    (ha : DA X (e :: es) da) (hdb : (x == ("__debug__" : Str)) = false := by decide) (he : starEach (e :: es) X.env = (false, eval e X.env) :: starEach es X.env := by rfl) (hpl : (backTo pos (starEach es X.env)).any (·.1) = false := by rfl) :
    DE X (.Call (.Name x p) (e :: es) [] pos) (dCallT dsp dds da) := by
  obtain ⟨t, a1, a2⟩ := ha.ex
  exact ⟨_, pe_callG (E := fun _ _ _ => False) F.fn hr hgd hg hm hk hb hd pass0 a1 hdb he hpl, snd_callT a2 hdv⟩
end
end DL

set_option Elab.async false
set_option linter.all false
set_option maxRecDepth 100000
set_option autoImplicit false
set_option maxHeartbeats 2000000
namespace DL
open PySem PySem.Spec L2 PyProof.Rows

/-! ## xs[::-1], d.clear(), repr of what stands in cells -/
def kRevS (R : DV → DSt → Prop) : DV → DSt → Prop := fun x S1 => match S1.seq x with
  | some (true, es) => match allImm es with
    | some ps => R (.imm (.list ps.reverse)) S1
    | none => False
  | _ => False
def dRevS (de : DTE) : DTE := fun S R => de S (kRevS R)
theorem paired_rev {V1 D1 : Type} {r : V1 → D1 → Prop} : ∀ {xs : List V1} {ds : List D1}, Paired r xs ds → Paired r xs.reverse ds.reverse
  | _, _, .nil => .nil
  | x :: xs, d :: ds, .cons h t => by
    rw [List.reverse_cons, List.reverse_cons]
    exact Paired.app' (paired_rev t) (.cons h .nil)
theorem allImm_rev {es : List DV} {ps : List PyData} (e : allImm es = some ps) : allImm es.reverse = some ps.reverse := by
  have h : ∀ {es : List DV} {ps : List PyData}, allImm es = some ps → es = ps.map DV.imm := by
    intro es
    induction es with
    | nil => intro ps e; cases e; rfl
    | cons d es ih =>
      intro ps e
      cases d with
      | imm a =>
        have e' : (allImm es).map (a :: ·) = some ps := e
        obtain ⟨l, l1, l2⟩ := Option.map_eq_some_iff.mp e'
        subst l2
        rw [ih l1]; rfl
      | _ => cases e
  rw [h e, ← List.map_reverse]
  exact allImm_map _
section
variable {X : Cx} {e o : Expr} {de do' : DTE} {p1 p2 p3 pos apos cpos : Pos}
theorem de_revS {k : Nat} (h : DE X e de) : DE X (.Subscript e (.Slice none none (some (.UnaryOp .USub (.Constant (.int 1) k p1) p2)) p3) pos) (dRevS de) := by
  obtain ⟨t, a1, a2⟩ := h.ex
  refine ⟨_, pe_revL a1, fun B S σ ts H R Q o hd kk => a2 B S σ ts H _ _ o hd fun v d S1 H1 q o1 => ?_⟩
  unfold kRevS at q
  split at q
  · rename_i es e1
    split at q
    · rename_i ps e2
      obtain ⟨F, α, o1⟩ := o1
      obtain ⟨p, ys, rfl, hq, hp⟩ := o1.seq o1.top e1
      exact ⟨p, ys, rfl, hq, fun l hn => kk _ _ S1 _ q ((o1.sub mem1).newLst hn (imms (allImm_rev e2) (paired_rev hp))).ok⟩
    · exact q.elim
  · exact q.elim
/-- d.clear() -/
def tDClear (P : Program) (w : World) (to : TE) : TE := fun σ H Q => to σ H fun x H1 => ∃ a kvs, x = .ref a ∧ H1 a = some (DicO P w a kvs) ∧ Q .non (upd H1 a (DicO P w a []))
theorem pe_dclearZ {to : TE} (ho : PE X o to) (hbase : attributeBase o "clear" X.env (eval o X.env) = eval o X.env := by rfl) (hline : (apos.endLine == cpos.line) = true := by rfl) : PE X (.Call (.Attribute o "clear" apos) [] [] cpos) (tDClear X.prog X.w to) := by
  refine ⟨fun pins s σ H Q I h => ?_⟩
  refine wpAny_Call_method0_late hbase hline (thn (ho.run pins s σ H _ I h) fun v s1 hv => ?_)
  obtain ⟨x, H1, I1, r1, a, kvs, rfl, hH, q⟩ := hv
  cases (show v = Value.ref a from r1)
  obtain ⟨z, hd, vs, rel, dd⟩ := dz_of I1 hH
  refine ⟨"dict", "dict.clear", PySem.F.plainAttrs_dict, PySem.F.slot_dict_clear, PySem.F.type_dict_clear, dd.typeIs, dd.mapOf.noDict, ?_⟩
  refine Calls.callWith_builtin rfl (PySem.evalArgs_none ?_)
  refine call_meetsIn PySem.F.slot_dict_clear dd.typeIs PySem.F.entry_dict_clear (PySem.F.args_dict_clear_1 _) (meets_dict_clear (cK X.prog X.w) a) ⟨vs, dd, by rw [← rel.length]; exact z, fun h' dd' hs => ?_⟩
  have he : ∃ u, h'.get? a = some u := let ⟨u, _, _, hu, _⟩ := dd'; ⟨u, hu⟩
  exact ⟨.non, _, d_write I1 (by rw [hH]; exact True.intro) hs he (dz_ok (Nat.zero_le _) hd .nil dd'), rfl, q⟩
def dDClear (do' : DTE) : DTE := fun S R => do' S fun x S1 => match x with
  | .cell k => match S1.cell k with
    | some (.dic _) => R dN (S1.put k (.dic []))
    | _ => False
  | _ => False
theorem de_dclear (ho : DE X o do') (hbase : attributeBase o "clear" X.env (eval o X.env) = eval o X.env := by rfl) (hline : (apos.endLine == cpos.line) = true := by rfl) : DE X (.Call (.Attribute o "clear" apos) [] [] cpos) (dDClear do') := by
  obtain ⟨t, a1, a2⟩ := ho.ex
  refine ⟨_, pe_dclearZ a1 hbase hline, fun B S σ ts H R Q o hd kk => a2 B S σ ts H _ _ o hd fun v d S1 H1 q o1 => ?_⟩
  split at q
  · rename_i k
    split at q
    · rename_i kvs e1
      obtain ⟨F, α, o1⟩ := o1
      obtain ⟨a, c1, rfl⟩ := o1.top
      obtain ⟨a', g1, g2, xs, g3, g4⟩ := o1.ce k _ (cell_get e1)
      cases c1.symm.trans g1
      exact ⟨_, xs, rfl, g3, kk _ _ _ _ q (((o1.cellPut (u := .dic []) g1 g2 ⟨[], upd_same, .nil⟩).sub mem1).add vnon).ok⟩
    · exact q.elim
  · exact q.elim
end
/-- repr: data, or what stands in the cells fz -/
def gReprC : DC1 := fun ds S R => match ds with
  | [d] => ∃ fz p, FzD S fz d p ∧ CanShow p ∧ R (dS p.shown) S
  | _ => False
theorem cd_reprC {X : Cx} (hg : X.A.guards = some []) (hu : X.A.units + 60 < cLine) : CallD X (.builtin "repr") gReprC := ⟨_, call_reprZ hg hu, fun B S σ ts H xs ds R Q hl h hd k => by
  match ds, hd with
  | [d], hd =>
    match xs, hl with
    | [x], _ =>
      obtain ⟨F, α, h⟩ := h
      obtain ⟨fz, p, hf, hc, hd⟩ := hd
      refine ⟨x, p, fixF F H α fz, rfl, fun b o q => ?_, fz_rp h hf (h.tm (x, d) (by simp)), hc, k _ _ S H hd ((h.sub memA).add vstr).ok⟩
      unfold fixF at q
      split at q
      · exact q
      · exact h.fh b o q⟩
section
variable {S : DSt} {R : DV → DSt → Prop} {x : DV} {es : List DV} {ps : List PyData} {k : Nat} {de : DTE}
theorem r_revS (h : de S (kRevS R)) : dRevS de S R := h
theorem r_kRevS (e : S.seq x = some (true, es)) (ei : allImm es = some ps) (q : R (.imm (.list ps.reverse)) S) : kRevS R x S := by
  unfold kRevS
  rw [e]
  dsimp only
  rw [ei]; exact q
theorem r_reprI {p : PyData} (h : CanShow p) (q : R (dS p.shown) S) : gReprC [.imm p] S R := ⟨[], p, .imm p, h, q⟩
theorem r_reprC {d : DV} {p : PyData} (fz : List Nat) (hf : FzD S fz d p) (h : CanShow p) (q : R (dS p.shown) S) : gReprC [d] S R := ⟨fz, p, hf, h, q⟩
theorem r_callT {dsp : DSp} {dds : List DV} {dr : DTA} (h : dr S fun es S1 => ∃ ks, kCallT dsp R (es ++ dds) S1 ks) : dCallT dsp dds dr S R := h
end
end DL

set_option Elab.async false
set_option linter.all false
set_option maxRecDepth 100000
set_option autoImplicit false
set_option maxHeartbeats 2000000
namespace DL
open PySem PySem.Spec L2 PyProof.Rows

/-! ## for k in d: the dict is locked while it is walked -/
/-- the keys of a locked dict -/
def Itz (P : Program) (w : World) (a : Addr) (ob : Obj) (kvs : List (Leaf × V)) : It :=
  ⟨fun i H => H a = some (LckO P w ob kvs a) ∧ i < kvs.length, fun i H x H' => H' = H ∧ ∃ l v, kvs[i]? = some (l, v) ∧ x = kvV l, fun i H => H a = some (LckO P w ob kvs a) ∧ kvs.length ≤ i⟩
section
variable {X : Cx} {pins : List (Addr × Obj)} {σ : L2.St} {H : Hp} {s : Shared} {a : Addr} {ob : Obj} {kvs : List (Leaf × V)}
theorem lck_of (I : Inv X pins σ H s) (e : H a = some (LckO X.prog X.w ob kvs a)) : s.heap.get? a = some ob ∧ kvs.length ≤ sizeLine ∧ (a == sysModules) = false ∧ ∃ vs, KV kvs vs ∧ s.heap.DictOf (cK X.prog X.w) a vs :=
  (show ObjOk X.prog X.w H s.heap a (LckO X.prog X.w ob kvs a) from I.hok a _ e).1
theorem lck_ok {H' : Hp} {h : Heap} {vs : List (Leaf × Value)} (ho : h.get? a = some ob) (z : kvs.length ≤ sizeLine) (hd : (a == sysModules) = false) (r : KV kvs vs) (dd : h.DictOf (cK X.prog X.w) a vs) : ObjOk X.prog X.w H' h a (LckO X.prog X.w ob kvs a) := by
  refine ⟨⟨ho, z, hd, vs, r, dd⟩, ⟨ob, ho⟩, fun h1 h2 hp k => ?_⟩
  obtain ⟨q0, q1, q2, vs', q3, o, es, ep, q4, q5⟩ := hp
  exact ⟨k ob q0, q1, q2, vs', q3, o, es, ep, k o q4, q5⟩
/-- its entries -/
theorem lck_raw {h : Heap} {vs : List (Leaf × Value)} (ho : h.get? a = some ob) (r : KV kvs vs) (dd : h.DictOf (cK X.prog X.w) a vs) :
    ∃ es ep, ob.data = .dict es ep ∧ h.DictRaw a es ep ∧ es.size = kvs.length ∧ ∀ i (hi : i < es.size) l v, kvs[i]? = some (l, v) → RelV (kvV l) es[i].key := by
  obtain ⟨es, ep, hr, hs, hk⟩ := dd.raw
  have hl := Paired.length r
  obtain ⟨o, o1, o2, o3⟩ := id hr
  cases ho.symm.trans o1
  refine ⟨es, ep, o3, hr, by rw [hs, hl], fun i hi l v e => ?_⟩
  obtain ⟨q, q1, q2⟩ := pget i r e
  obtain ⟨l', u⟩ := q
  have e1 : l = l' := q2.1
  subst e1
  exact ck_rel (hk i hi l u q1).1
theorem turn_z {P : Program} {w : World} {K : PySem.W.Frag} {tg : Expr} (it : Addr) {es : Array DictEntry} {ep : Nat} (hd : ob.data = .dict es ep) : Turn P w K tg (Itz P w a ob kvs) [it] it (fun i h => h.IsKeyIter it a i es.size ep) where
  mem := List.mem_singleton.mpr rfl
  obj := fun i h st b hb => by
    rw [List.mem_singleton.mp hb]
    obtain ⟨oi, e, _, dd⟩ := st
    exact ⟨oi, e, fun v z => by rw [dd] at z; cases z⟩
  keep := fun i h h' st k => let ⟨oi, e, r⟩ := st; ⟨oi, k it (List.mem_singleton.mpr rfl) oi e, r⟩
  item := by
    intro X hP hw hK hc i pins s σ H E I hf st hg
    subst hP hw hK
    obtain ⟨hH, hi⟩ := hg
    obtain ⟨f0, f1, _, f3, f4, f5⟩ := hf it (List.mem_singleton.mpr rfl)
    obtain ⟨ho, z, hne, vs, rel, dd⟩ := lck_of I hH
    obtain ⟨es', ep', q1, q2, q3, q4⟩ := lck_raw (X := X) ho rel dd
    cases hd.symm.trans q1
    obtain ⟨⟨l, v⟩, hlv⟩ : ∃ p, kvs[i]? = some p := ⟨kvs[i], List.getElem?_eq_getElem hi⟩
    have hlt : i < es.size := by rw [q3]; exact hi
    refine wpAny_pyNext_keys_item_raw st q2 hlt fun h' st' sb => ⟨es[i].key, rfl, ?_⟩
    have I1 : Inv X pins σ H { s with heap := h' } := I.turned (t' := s.toks) (fun b u hb e => (sb.2 b hb).trans e) f0 f1 f3 f4 f5
    obtain ⟨oi, e, c, di⟩ := id st'
    exact go_of (s := { s with heap := h' }) e c di (by decide) ⟨kvV l, H, I1, q4 i hlt l v hlv, ⟨rfl, l, v, hlv, rfl⟩, st', fun b hb => (hf b hb).1⟩
  done := by
    intro X hP hw hK hc i pins s σ H E I hf st hg
    subst hP hw hK
    obtain ⟨hH, hi⟩ := hg
    obtain ⟨f0, f1, _, f3, f4, f5⟩ := hf it (List.mem_singleton.mpr rfl)
    obtain ⟨ho, z, hne, vs, rel, dd⟩ := lck_of I hH
    obtain ⟨es', ep', q1, q2, q3, q4⟩ := lck_raw (X := X) ho rel dd
    cases hd.symm.trans q1
    exact wpAny_pyNext_keys_end_raw (I.ok.hd hc) st q2 (by rw [q3]; exact hi) fun h' eb => ⟨rfl, I.turned (t' := s.toks) (fun b u hb e => eb b u hb e) f0 f1 f3 f4 f5⟩
  self := fun A i s Q E st h => wpAny_pyIter_keyiter st h
def iLock (P : Program) (w : World) (te : TE) : TI := fun σ H R => te σ H fun x H1 => ∃ a kvs, x = .ref a ∧ H1 a = some (DicO P w a kvs) ∧ ∀ ob, R (Itz P w a ob kvs) (upd H1 a (LckO P w ob kvs a))
theorem pi_lock {tg e : Expr} {te : TE} (he : PE X e te) : PI X tg e (iLock X.prog X.w te) := by
  refine ⟨fun pins s σ H R I h => thn (he.run pins s σ H _ I h) fun u s1 hx => ?_⟩
  obtain ⟨x, H1, I1, rx, d, kvs, rfl, hH, q⟩ := hx
  cases (show u = Value.ref d from rx)
  obtain ⟨z, hne, vs, rel, dd⟩ := dz_of I1 hH
  have he' : ∃ o, s1.heap.get? d = some o := let ⟨o, _, _, ho, _⟩ := dd; ⟨o, ho⟩
  obtain ⟨ob, ho⟩ := he'
  obtain ⟨es, ep, q1, q2, q3, q4⟩ := lck_raw (X := X) ho rel dd
  have I2 : Inv X pins σ (upd H1 d (LckO X.prog X.w ob kvs d)) { s1 with heap := s1.heap, toks := s1.toks } :=
    I1.write (x := d) (e := d) (by rw [hH]; exact True.intro) (.inl rfl) (fun _ _ _ q => q) ⟨ob, ho⟩ (lck_ok ho z hne rel dd)
  exact wpAny_pyIter_dict_raw hne q2 (pi_one (tk := s1.toks) I2 _ (turn_z _ q1) ⟨_, Heap.get?_push_size _ rfl, rfl, rfl⟩ (q ob))
def rAtL (P : Program) (w : World) : R2 := fun x y H Q => ∃ a ob kvs k v, x = .ref a ∧ H a = some (LckO P w ob kvs a) ∧ y = kvV k ∧ valV kvs k = some v ∧ Q v H
theorem ix_lck : IxR X (rAtL X.prog X.w) := by
  intro value slice pins s σ H x y v u Q I rx ry h hs
  obtain ⟨a, ob, kvs, k, z, rfl, hH, rfl, hv, q⟩ := h
  cases (show v = Value.ref a from rx)
  obtain ⟨_, _, hd, vs, rel, dd⟩ := lck_of I hH
  obtain ⟨u', hu, ru⟩ := RelO.some_of (v := z) (o := valueAt vs k) (by rw [← hv]; exact rel.val k)
  exact PyProof.Rows.tail_any dd.typeIs PySem.F.slot_dict_getitem.lookup (wpAny_getItem_of (ck_of ry) dd.mapOf hu ⟨z, H, I.tok _, ru, q⟩) hs
end
/-! ### over data -/
/-- None and ints, as values -/
def flV : PyData → Option V
  | .none => some .non
  | .int i => some (.int i)
  | _ => none
def flL : List (Leaf × DV) → Option (List (Leaf × V))
  | [] => some []
  | (l, .imm d) :: r => match flV d, flL r with
    | some v, some vs => some ((l, v) :: vs)
    | _, _ => none
  | _ => none
section
variable {P : Program} {w : World} {K : PySem.W.Frag} {B : Bs} {S S' : DSt} {σ : L2.St} {ts : List (V × DV)} {H F : Hp} {α : List Addr} {v : V} {d : DV}
theorem flV_ok {p : PyData} {u : V} (e : flV p = some u) (h : VOk P w K F α v (.imm p)) : v = u := by
  cases p <;> first | (cases e; cases h; rfl) | cases e
theorem flV_rp {p : PyData} {u : V} (e : flV p = some u) : VOk P w K F α u (.imm p) := by
  cases p <;> first | (cases e; first | exact Rp.non | exact Rp.int _) | cases e
theorem flL_ok : ∀ {ks : List (Leaf × V)} {es : List (Leaf × DV)} {fs : List (Leaf × V)}, flL es = some fs → Paired (KVOk P w K F α) ks es → ks = fs
  | [], [], fs, e, _ => by cases e; rfl
  | p :: ks, (l, .imm q) :: es, fs, e, .cons h t => by
    have e : (match flV q, flL es with | some v, some vs => some ((l, v) :: vs) | _, _ => none) = some fs := e
    split at e
    · rename_i v vs e1 e2
      cases e
      rw [flL_ok e2 t]
      obtain ⟨h1, h2⟩ := h
      have h1 : p.1 = l := h1
      have := flV_ok e1 h2
      rw [← h1, ← this]
    · cases e
theorem flL_back : ∀ {es : List (Leaf × DV)} {fs : List (Leaf × V)}, flL es = some fs → Paired (KVOk P w K F α) fs es
  | [], fs, e => by cases e; exact .nil
  | (l, .imm q) :: es, fs, e => by
    have e : (match flV q, flL es with | some v, some vs => some ((l, v) :: vs) | _, _ => none) = some fs := e
    split at e
    · rename_i v vs e1 e2
      cases e
      exact .cons ⟨rfl, flV_rp e1⟩ (flL_back e2)
    · cases e
theorem kvD_rp (l : Leaf) : VOk P w K F α (kvV l) (.imm (kvD l)) := by
  cases l
  · exact Rp.non
  · exact Rp.int _
  · exact Rp.str _
/-- the walk of a dict in a cell: the cell is locked from now on -/
def diLock (P : Program) (w : World) (de : DTE) : DTI := fun S R => de S fun d S1 => match d with
  | .cell k => match S1.cell k with
    | some (.dic es) => match flL es with
      | some fs => ∀ ob, R (fs.map fun p => DY.one (.imm (kvD p.1))) (fun S' => S'.cell k = some (.ho (LckO P w ob fs))) (S1.put k (.ho (LckO P w ob fs)))
      | none => False
    | _ => False
  | _ => False
theorem snd_lock {te : TE} {de : DTE} (he : SndE P w K te de) : SndI P w K (iLock P w te) (diLock P w de) := fun B S σ ts H R Q h hd kk =>
  he B S σ ts H _ _ h hd fun x dx S1 H1 q o => by
    split at q
    · rename_i k
      split at q
      · rename_i es e1
        split at q
        · rename_i fs e2
          obtain ⟨F, α, o⟩ := o
          obtain ⟨a, c1, rfl⟩ := o.top
          obtain ⟨a', g1, g2, xs, g3, g4⟩ := o.ce k _ (cell_get e1)
          cases c1.symm.trans g1
          have ex := flL_ok e2 g4
          subst ex
          refine ⟨a, xs, rfl, g3, fun ob => ?_⟩
          have o2 := o.cellPut (o := LckO P w ob xs a) (u := .ho (LckO P w ob xs)) g1 g2 upd_same
          have same : ∀ (B2 : Bs) (S2 : DSt) (σ2 : L2.St) (H2 : Hp) (vs : List (V × DV)), (V.ref a, DV.cell k) ∈ vs → S2.cell k = some (.ho (LckO P w ob xs)) → StOk P w K B2 S2 σ2 vs H2 → H2 a = some (LckO P w ob xs a) := fun B2 S2 σ2 H2 vs hm hs ⟨F2, α2, z⟩ => by
            obtain ⟨b, b1, b2⟩ := z.tm _ hm
            cases b2
            obtain ⟨b', b1', b2', b3⟩ := z.ce k _ (cell_get hs)
            cases b1.symm.trans b1'
            exact b3
          refine kk _ _ _ _ (Itz P w a ob xs) (fun H2 => H2 a = some (LckO P w ob xs a)) (fun i H2 v H3 => H3 = H2 ∧ ∃ l u, xs[i]? = some (l, u) ∧ v = kvV l) [(.ref a, .cell k)] (q ob) (o2.sub fun z hz => by simpa using hz).ok ?_ ?_ ?_
          · exact ⟨fun i H2 hi hG => ⟨hG, by simpa using hi⟩, fun H2 hG => ⟨hG, by simp⟩, fun i H2 v H3 hi _ y => y⟩
          · exact fun B2 S2 σ2 H2 vs hv hs o2 => same B2 S2 σ2 H2 vs (hv _ (by simp)) hs o2
          · rintro B2 i S2 σ2 H2 v H3 vs hi hv hs ⟨F2, α2, z⟩ ⟨rfl, l, u, hlu, rfl⟩
            exact ⟨.one (.imm (kvD l)), by rw [List.getElem?_map, hlu]; rfl, F2, α2, z, kvD_rp (α := α2) l⟩
        · exact q.elim
      · exact q.elim
    · exact q.elim
theorem di_lock {X : Cx} {tg e : Expr} {de : DTE} (he : DE X e de) : DI X tg e (diLock X.prog X.w de) := by
  obtain ⟨t, a1, a2⟩ := he.ex
  exact ⟨_, pi_lock a1, snd_lock a2⟩
/-- d[k] of a locked dict -/
def gAtL (P : Program) (w : World) : D2 := fun x y S R => ∃ k ob es fs l d, x = .cell k ∧ S.cell k = some (.ho (LckO P w ob fs)) ∧ flL es = some fs ∧ keyOf y = some l ∧ valG es l = some d ∧ R d S
theorem snd_atL : SndR P w K (rAtL P w) (gAtL P w) := fun B S σ ts H x y dx dy R Q h hd k => by
  obtain ⟨j, ob, es, fs, l, d, rfl, hc, hf, hl, hv, q⟩ := hd
  obtain ⟨F, α, h⟩ := h
  obtain ⟨a, c1, rfl⟩ := h.top2
  obtain ⟨a', g1, g2, g3⟩ := h.ce j _ (cell_get hc)
  cases c1.symm.trans g1
  have hp := flL_back (P := P) (w := w) (K := K) (F := F) (α := α) hf
  obtain ⟨v, v1, v2⟩ := valG_ok hp hv
  exact ⟨a, ob, fs, l, v, rfl, g3, key_ok h.top hl, v1, k v d S H q ((h.sub mem2).add v2).ok⟩
theorem de_atL {X : Cx} {a b : Expr} {da db : DTE} {pos : Pos} (ha : DE X a da) (hb : DE X b db) (hs : PlainIx b := by exact fun _ _ => rfl) : DE X (.Subscript a b pos) (dOp (gOr gAt (gAtL X.prog X.w)) da db) := by
  obtain ⟨ta, a1, a2⟩ := ha.ex
  obtain ⟨tb, b1, b2⟩ := hb.ex
  exact ⟨_, pe_ix (.or (.or ix_dicZ ix_seq) ix_lck) a1 b1 hs, snd_op a2 b2 (snd_rOr snd_at snd_atL)⟩
/-- the lock is taken off -/
def tUnl (P : Program) (w : World) (te : TE) : TE := fun σ H Q => te σ H fun v H1 => ∃ a ob kvs, H1 a = some (LckO P w ob kvs a) ∧ Q v (upd H1 a (DicO P w a kvs))
theorem pe_unl {X : Cx} {e : Expr} {te : TE} (h : PE X e te) : PE X e (tUnl X.prog X.w te) := ⟨fun pins s σ H Q I q => by
  refine thn (h.run pins s σ H _ I q) fun u s1 hx => ?_
  obtain ⟨v, H1, I1, r1, a, ob, kvs, hH, q1⟩ := hx
  obtain ⟨ho, z, hd, vs, rel, dd⟩ := lck_of I1 hH
  have I2 : Inv X pins σ (upd H1 a (DicO X.prog X.w a kvs)) { s1 with heap := s1.heap, toks := s1.toks } :=
    I1.write (x := a) (e := a) (by rw [hH]; exact True.intro) (.inl rfl) (fun _ _ _ q => q) ⟨ob, ho⟩ (dz_ok z hd rel dd)
  exact ⟨v, _, I2, r1, q1⟩⟩
def dUnl (P : Program) (w : World) (de : DTE) : DTE := fun S R => de S fun d S1 => ∃ k ob es fs, S1.cell k = some (.ho (LckO P w ob fs)) ∧ flL es = some fs ∧ R d (S1.put k (.dic es))
theorem DE.unl {X : Cx} {e : Expr} {de : DTE} (h : DE X e de) : DE X e (dUnl X.prog X.w de) := by
  obtain ⟨t, a1, a2⟩ := h.ex
  refine ⟨_, pe_unl a1, fun B S σ ts H R Q o hd kk => a2 B S σ ts H _ _ o hd fun v d S1 H1 q o => ?_⟩
  obtain ⟨k, ob, es, fs, hc, hf, q⟩ := q
  obtain ⟨F, α, o⟩ := o
  obtain ⟨a, g1, g2, g3⟩ := o.ce k _ (cell_get hc)
  refine ⟨a, ob, fs, g3, kk v d _ _ q (o.cellPut (o := DicO X.prog X.w a fs) (u := .dic es) g1 g2 ⟨fs, upd_same, flL_back hf⟩).ok⟩
end
section
variable {P : Program} {w : World} {S : DSt} {R : DV → DSt → Prop} {RI : List DY → (DSt → Prop) → DSt → Prop} {de : DTE} {k : Nat} {es : List (Leaf × DV)} {fs : List (Leaf × V)} {ob : Obj} {y d : DV} {l : Leaf}
def kLock (P : Program) (w : World) (RI : List DY → (DSt → Prop) → DSt → Prop) : DV → DSt → Prop := fun d S1 => match d with
  | .cell k => match S1.cell k with
    | some (.dic es) => match flL es with
      | some fs => ∀ ob, RI (fs.map fun p => DY.one (.imm (kvD p.1))) (fun S' => S'.cell k = some (.ho (LckO P w ob fs))) (S1.put k (.ho (LckO P w ob fs)))
      | none => False
    | _ => False
  | _ => False
theorem r_iLock (h : de S (kLock P w RI)) : diLock P w de S RI := h
theorem r_kLock (e : S.cell k = some (.dic es)) (ef : flL es = some fs) (q : ∀ ob, RI (fs.map fun p => DY.one (.imm (kvD p.1))) (fun S' => S'.cell k = some (.ho (LckO P w ob fs))) (S.put k (.ho (LckO P w ob fs)))) : kLock P w RI (.cell k) S := by
  show match S.cell k with | some (.dic es) => _ | _ => False
  rw [e]
  dsimp only
  rw [ef]
  exact q
theorem r_atLk (hc : S.cell k = some (.ho (LckO P w ob fs))) (hf : flL es = some fs) (hl : keyOf y = some l) (hv : valG es l = some d) (q : R d S) : gOr gAt (gAtL P w) (.cell k) y S R := .inr ⟨k, ob, es, fs, l, d, rfl, hc, hf, hl, hv, q⟩
theorem r_atP {x : DV} (q : gAt x y S R) : gOr gAt (gAtL P w) x y S R := .inl q
theorem r_unl (h : de S fun d S1 => ∃ k ob es fs, S1.cell k = some (.ho (LckO P w ob fs)) ∧ flL es = some fs ∧ R d (S1.put k (.dic es))) : dUnl P w de S R := h
end
end DL

set_option Elab.async false
set_option linter.all false
set_option maxRecDepth 100000
set_option autoImplicit false
set_option maxHeartbeats 2000000
namespace DL
open PySem PySem.Spec L2 PyProof.Rows

/-! ## repr of a dict in a cell: keys and values None, ints, texts -/
/-- flat data: no address in it -/
inductive FlR : V → PyData → Prop
  | non : FlR .non .none
  | int (i : Int) : FlR (.int i) (.int i)
theorem flr_reads {h : Heap} {v : V} {d : PyData} {u : Value} (f : FlR v d) (r : RelV v u) : Reads h u d [] := by
  cases f with
  | non => cases (show u = Value.none from r); exact .none
  | int i => obtain ⟨t, rfl⟩ := (show ∃ t, u = Value.int i t from r); exact .int i t
theorem leaf_reads {h : Heap} {l : Leaf} {u : Value} (r : RelV (kvV l) u) : Reads h u (kvD l) [] := by
  cases l with
  | none => cases (show u = Value.none from r); exact .none
  | num i => obtain ⟨t, rfl⟩ := (show ∃ t, u = Value.int i t from r); exact .int i t
  | text x => obtain ⟨t, rfl⟩ := (show ∃ t, u = Value.str x t from r); exact .str x t
def FlK (kvs : List (Leaf × V)) (fs : List (Leaf × PyData)) : Prop := Paired (fun p q => p.1 = q.1 ∧ FlR p.2 q.2) kvs fs
def flD (fs : List (Leaf × PyData)) : PyData := .dict (fs.map fun q => (kvD q.1, q.2))
theorem flk_reads {P : Program} {w : World} {h : Heap} : ∀ {kvs : List (Leaf × V)} {fs : List (Leaf × PyData)} {vs : List (Leaf × Value)} {es : List DictEntry}, FlK kvs fs → KV kvs vs → Pairs (cK P w) es vs →
    ReadsAll h (es.map (·.key)) ((fs.map fun q => (kvD q.1, q.2)).map (·.1)) [] ∧ ReadsAll h (es.map (·.val)) ((fs.map fun q => (kvD q.1, q.2)).map (·.2)) []
  | _, _, _, _, .nil, r, p => by cases r; cases p; exact ⟨.nil, .nil⟩
  | (k, v) :: kvs, (l, d) :: fs, _, _, .cons f t, r, p => by
    cases r with
    | cons r1 r2 =>
      cases p with
      | cons p1 p2 p3 =>
        obtain ⟨i1, i2⟩ := flk_reads (h := h) t r2 p3
        obtain ⟨f1, f2⟩ := f
        obtain ⟨r1a, r1b⟩ := r1
        dsimp only at f1 f2 r1a r1b
        subst f1
        have rk := ck_rel p1
        rw [← r1a] at rk
        exact ⟨.cons (as := []) (bs := []) (leaf_reads rk) i1, .cons (as := []) (bs := []) (by dsimp only; rw [p2]; exact flr_reads f2 r1b) i2⟩
theorem call_reprD {X : Cx} (hg : X.A.guards = some []) (hu : X.A.units + 60 < cLine) : CallR X (.builtin "repr") (fun xs H Q => ∃ a kvs fs, xs = [.ref a] ∧ H a = some (DicO X.prog X.w a kvs) ∧ FlK kvs fs ∧ (flD fs).showable = true ∧ wtD (flD fs) ≤ 10000000 ∧ (flD fs).depth ≤ 50 ∧ Q (.str (flD fs).shown) H) := by
  intro pins s σ H xs us Q I r h
  obtain ⟨a, kvs, fs, rfl, hH, hf, h1, h2, h3, q⟩ := h
  rw [Vals.ref1 r]
  obtain ⟨z, hs, vs, rel, o, es, ep, ho, hx, hd, _, hp, _⟩ := dz_of I hH
  obtain ⟨i1, i2⟩ := flk_reads (h := s.heap) hf rel hp
  have hl := shown_le (flD fs)
  have hne : sysModules ≠ a := fun e => by
    rw [e] at hs
    simp at hs
  have ra : Reads s.heap (.ref a) (flD fs) (a :: [] ++ []) := .dict ho hx.1 hd i1 i2
  exact repr_of_reads' ra h1 (fun _ q => by simp at q; exact hne q) hg (by omega) (fun _ _ e => e) (fun h' u tk hk => ⟨.str _, H, I.kept hk, ⟨_, rfl⟩, q⟩) (by rw [sizeLine_eq]; omega)
/-- es are flat, fs as data -/
def FlE (es : List (Leaf × DV)) (fs : List (Leaf × PyData)) : Prop := es = fs.map (fun q => (q.1, DV.imm q.2)) ∧ ∀ q ∈ fs, q.2 = .none ∨ ∃ i, q.2 = .int i
def gReprX : DC1 := fun ds S R => gReprC ds S R ∨ (match ds with
  | [.cell k] => match S.cell k with
    | some (.dic es) => ∃ fs, FlE es fs ∧ (flD fs).showable = true ∧ wtD (flD fs) ≤ 10000000 ∧ (flD fs).depth ≤ 50 ∧ R (dS (flD fs).shown) S
    | _ => False
  | _ => False)
section
variable {P : Program} {w : World} {K : PySem.W.Frag} {F : Hp} {α : List Addr}
theorem flk_of : ∀ {kvs : List (Leaf × V)} {fs : List (Leaf × PyData)}, Paired (KVOk P w K F α) kvs (fs.map fun q => (q.1, DV.imm q.2)) → (∀ q ∈ fs, q.2 = .none ∨ ∃ i, q.2 = .int i) → FlK kvs fs
  | [], [], _, _ => .nil
  | (k, v) :: kvs, (l, d) :: fs, .cons h t, hf => by
    refine .cons ⟨h.1, ?_⟩ (flk_of t fun z hz => hf z (List.mem_cons_of_mem _ hz))
    have hv : Rp P w K F v d := h.2
    have e : d = .none ∨ ∃ i, d = .int i := hf (l, d) List.mem_cons_self
    rcases e with rfl | ⟨i, rfl⟩
    · cases hv; exact .non
    · cases hv; exact .int i
end
theorem cd_reprX {X : Cx} (hg : X.A.guards = some []) (hu : X.A.units + 60 < cLine) : CallD X (.builtin "repr") gReprX := by
  obtain ⟨r, c1, c2⟩ := (cd_reprC hg hu).ex
  refine ⟨_, .or c1 (call_reprD hg hu), fun B S σ ts H xs ds R Q hl h hd k => ?_⟩
  rcases hd with hd | hd
  · exact .inl (c2 B S σ ts H xs ds R Q hl h hd k)
  · split at hd
    · rename_i kk
      split at hd
      · rename_i es e
        obtain ⟨fs, ⟨rfl, hf⟩, h1, h2, h3, hd⟩ := hd
        match xs, hl with
        | [x], _ =>
          obtain ⟨F, α, h⟩ := h
          obtain ⟨a, c1, rfl⟩ := h.tm (x, .cell kk) (by simp)
          obtain ⟨a', g1, g2, ks, g3, g4⟩ := h.ce kk _ (cell_get e)
          cases c1.symm.trans g1
          exact .inr ⟨a, ks, fs, rfl, g3, flk_of g4 hf, h1, h2, h3, k _ _ S H hd ((h.sub memA).add vstr).ok⟩
      · exact hd.elim
    · exact hd.elim
section
variable {S : DSt} {R : DV → DSt → Prop} {k : Nat}
theorem r_reprXI {p : PyData} (h : CanShow p) (q : R (dS p.shown) S) : gReprX [.imm p] S R := .inl (r_reprI h q)
theorem r_reprXC {d : DV} {p : PyData} (fz : List Nat) (hf : FzD S fz d p) (h : CanShow p) (q : R (dS p.shown) S) : gReprX [d] S R := .inl (r_reprC fz hf h q)
theorem r_reprXD {es : List (Leaf × DV)} {fs : List (Leaf × PyData)} (e : S.cell k = some (.dic es)) (hf : FlE es fs) (h1 : (flD fs).showable = true) (h2 : wtD (flD fs) ≤ 10000000) (h3 : (flD fs).depth ≤ 50) (q : R (dS (flD fs).shown) S) : gReprX [.cell k] S R := .inr (by
  show match S.cell k with | some (.dic es) => _ | _ => False
  rw [e]
  exact ⟨fs, hf, h1, h2, h3, q⟩)
end
end DL

set_option Elab.async false
set_option linter.all false
set_option maxRecDepth 100000
set_option autoImplicit false
set_option maxHeartbeats 2000000
namespace DL
open PySem PySem.Spec L2 PyProof.Rows

/-! ## one keyword-only parameter with a default -/
section
variable {K : PySem.W.Frag} {fd : FuncData} {ps : List Str} {n : Nat} {D : Addr} {kn : Str} {u : Value}
theorem binds_kw (hD : PySem.W.nsIn K D kn = some (some u)) (hn : n + 1 = ps.length) (h : ∀ us : List Value, us.length = n → KwChain D [(kn, u)] (bindArgs fd ⟨us, []⟩) (ps.zip (us ++ [u]))) : Binds K fd ps [u] := fun s us X hl =>
  BindsTo.of_looks fun M => KwChain.looks X (fun q hq => by rw [List.mem_singleton.mp hq]; exact hD) (h us (by rw [List.length_append, List.length_singleton] at hl; omega))
theorem kbn_kw (h : ∀ us ws : List Value, us.length = n → ws.length = 1 → bindArgs fd ⟨us, [kn].zip ws⟩ = pure (ps.zip (us ++ ws))) : KBn K fd ps n [kn] (fun us ws => us ++ ws) (fun vs zs => vs ++ zs) :=
  ⟨fun s us ws _ l1 l2 => .of_eq (h us ws l1 l2), fun r1 r2 => r1.append r2⟩
end
section
variable {X : Cx} {CX : CXT} {k n : Nat} {f : Addr} {fd : FuncData} {ps ks : List Str} {sp : Sp} {E : XK} {x : Str} {p pos : Pos} {e : Expr} {es : List Expr} {kws : List Keyword} {t tk : TA} {g : List Value → List Value → List Value} {gV : List V → List V → List V}
theorem pe_callNG (F : FnG X.prog X.w X.K X.mg X.base CX k f fd ps sp) (hr : Room k X.A) (hgd : X.A.guards = some []) (hg : Gl X x) (hm : X.mg x = some (.ref f)) (hk : PySem.W.keepIn X.K (.ref f) = true) (hb : KBn X.K fd ps n ks g gV) (hx : Passes CX X E)
    (ha : PA X (e :: es) t) (hkw : PK X kws tk) (hall : (backToKw pos (keywordEach kws X.env)).all (·.1.isSome) = true := by rfl) (hks : (backToKw pos (keywordEach kws X.env)).filterMap (·.1) = ks := by rfl)
    (hdb : (x == ("__debug__" : Str)) = false := by decide) (he : starEach (e :: es) X.env = (false, eval e X.env) :: starEach es X.env := by rfl)
    (hpl : ((backTo pos (starEach (e :: es) X.env)).any (·.1) || (backToKw pos (keywordEach kws X.env)).any (·.1.isNone)) = false := by rfl) :
    PE X (.Call (.Name x p) (e :: es) kws pos) (tCallN n ks.length sp gV E t tk) := ⟨fun pins s σ H Q I h =>
  wpAny_Call_Name_kw (ld_glob I hg hm (PySem.W.callWith_KW (h₀ := X.base) I.ok.mod.kin hk hall (thn (ha.run pos pins s σ H _ I h) fun us s1 hu =>
    let ⟨_, H1, I1, r, q⟩ := hu
    thn (hkw.run pos pins s1 σ H1 _ I1 q) fun ws s2 hw => by
      obtain ⟨zs, H2, I2, rz, l1, l2, q2⟩ := hw
      rw [hks]
      exact ⟨I2.kIn, wpAny_call (out_fn F hr hgd hx I2 (hb.to s2 us ws I2.kIn (r.length.symm.trans l1) (rz.length.symm.trans l2)) (hb.rel r rz) q2)⟩) hpl he) hdb)⟩
end
structure DKw (X : Cx) (kws : List Keyword) (dr : DTA) : Prop where
  ex : ∃ t, PK X kws t ∧ SndA X.prog X.w X.K t dr
section
variable {X : Cx} {nm : Option Str} {e : Expr} {kpos : Pos} {kws : List Keyword} {de : DTE} {dr da dk : DTA}
theorem dk_nil : DKw X [] dNil := ⟨_, pk_nil, snd_nil⟩
theorem dk_cons (he : DE X e de) (hr : DKw X kws dr) : DKw X (⟨nm, e, kpos⟩ :: kws) (dCons de dr) := by
  obtain ⟨t, a1, a2⟩ := he.ex
  obtain ⟨u, b1, b2⟩ := hr.ex
  exact ⟨_, pk_cons a1 b1, snd_cons a2 b2⟩
def dBoth (n m : Nat) (da dk : DTA) : DTA := fun S R => da S fun ds S1 => dk S1 fun zs S2 => ds.length = n ∧ zs.length = m ∧ R (ds ++ zs) S2
def tBoth (n m : Nat) (t tk : TA) : TA := fun σ H Q => t σ H fun vs H1 => tk σ H1 fun zs H2 => vs.length = n ∧ zs.length = m ∧ Q (vs ++ zs) H2
theorem snd_both {P : Program} {w : World} {K : PySem.W.Frag} {n m : Nat} {t tk : TA} (ha : SndA P w K t da) (hk : SndA P w K tk dk) : SndA P w K (tBoth n m t tk) (dBoth n m da dk) := fun B S σ ts H R Q h hd k =>
  ha B S σ ts H _ _ h hd fun vs ds S1 H1 hl q o => hk B S1 σ _ H1 _ _ o q fun zs es S2 H2 hl2 q2 o2 =>
    ⟨by rw [hl]; exact q2.1, by rw [hl2]; exact q2.2.1, k (vs ++ zs) (ds ++ es) S2 H2 (by rw [List.length_append, List.length_append, hl, hl2]) q2.2.2 (o2.sub fun p hp => by
      rw [List.zip_append hl, List.append_assoc] at hp
      rcases List.mem_append.mp hp with z | z
      · exact List.mem_append_right _ (List.mem_append_left _ z)
      · rcases List.mem_append.mp z with z | z
        · exact List.mem_append_left _ z
        · exact List.mem_append_right _ (List.mem_append_right _ z))⟩
/-- f(a, .., k = v) -/
def dCallK (dsp : DSp) (n m : Nat) (da dk : DTA) : DTE := dCall dsp [] (dBoth n m da dk)
theorem de_callK {k n : Nat} {f : Addr} {fd : FuncData} {ps ks : List Str} {dsp : DSp} {es : List Expr} {x : Str} {p pos : Pos}
    (F : DFn X.prog X.w X.K X.mg X.base k f fd ps dsp) (hr : Room k X.A) (hgd : X.A.guards = some []) (hg : Gl X x) (hm : X.mg x = some (.ref f)) (hk : PySem.W.keepIn X.K (.ref f) = true) (hb : KBn X.K fd ps n ks (fun us ws => us ++ ws) (fun vs zs => vs ++ zs))
    (ha : DA X (e :: es) da) (hkw : DKw X kws dk) (hall : (backToKw pos (keywordEach kws X.env)).all (·.1.isSome) = true := by rfl) (hks : (backToKw pos (keywordEach kws X.env)).filterMap (·.1) = ks := by rfl)
    (hdb : (x == ("__debug__" : Str)) = false := by decide) (he : starEach (e :: es) X.env = (false, eval e X.env) :: starEach es X.env := by rfl)
    (hpl : ((backTo pos (starEach (e :: es) X.env)).any (·.1) || (backToKw pos (keywordEach kws X.env)).any (·.1.isNone)) = false := by rfl) :
    DE X (.Call (.Name x p) (e :: es) kws pos) (dCallK dsp n ks.length da dk) := by
  obtain ⟨t, a1, a2⟩ := ha.ex
  obtain ⟨u, b1, b2⟩ := hkw.ex
  refine ⟨_, pe_callNG (E := fun _ _ _ => False) F.fn hr hgd hg hm hk hb pass0 a1 b1 hall hks hdb he hpl, fun B S σ ts H R Q o hd kk => ?_⟩
  have q := snd_call (E := fun _ _ _ => False) (snd_both (n := n) (m := ks.length) a2 b2) (dvs := []) (dds := []) (fun _ _ => .nil) B S σ ts H R Q o hd kk
  unfold tCall tBoth at q
  simp only [List.append_nil] at q
  exact q
end
section
variable {S : DSt} {R : DV → DSt → Prop} {dsp : DSp} {n m : Nat} {da dk : DTA} {RA : List DV → DSt → Prop} {ds zs : List DV}
theorem r_callK (h : dBoth n m da dk S fun es S1 => ∃ ks, kCall dsp R (es ++ []) S1 ks) : dCallK dsp n m da dk S R := h
theorem r_both (h : da S fun ds S1 => dk S1 fun zs S2 => ds.length = n ∧ zs.length = m ∧ RA (ds ++ zs) S2) : dBoth n m da dk S RA := h
end

/-! ## xs.index(t), xs.count(t): data of any kind -/
def gIndexD : DM := fun x ds S R => match ds with
  | [y] => ∃ ps d j z, S.dat x = some (.list ps) ∧ S.dat y = some d ∧ SeqAt.shaped (.list ps) = true ∧ SeqAt.shaped d = true ∧ ps[j]? = some z ∧ PyData.eqv z d = true ∧ (∀ (m : Nat) (z' : PyData), m < j → ps[m]? = some z' → PyData.eqv z' d = false) ∧ R (dI (j : Nat)) S
  | _ => False
theorem md_indexD {X : Cx} (hu : X.A.units + 65 < cLine) : MthD X "list.index" gIndexD := ⟨_, mt_indexD hu, fun B S σ ts H x dx xs ds R Q hl h hd k => by
  match ds, hd with
  | [y], hd =>
    match xs, hl with
    | [u], _ =>
      obtain ⟨F, α, h⟩ := h
      obtain ⟨ps, d, j, z, e1, e2, s1, s2, h1, h2, h3, q⟩ := hd
      have g1 := h.dat (h.tm (x, dx) (by simp)) e1 s1
      have g2 := h.dat (h.tm (u, y) (by simp)) e2 s2
      cases g1 with
      | lst a1 a2 => exact ⟨_, u, d, ps, j, z, rfl, rfl, .lst a1 a2, g2, s1, s2, h1, h2, h3, k _ _ S H q ((h.sub fun p hp => by simp [hp]).add vint).ok⟩⟩
def rCountD (K : PySem.W.Frag) : V → List V → Hp → VK → Prop := fun x xs H Q => ∃ (a : Addr) (y : V) (d : PyData) (ds : List PyData), x = V.ref a ∧ xs = [y] ∧ Dp K H (V.ref a) (.list ds) ∧ Dp K H y d ∧
  SeqAt.shaped (.list ds) = true ∧ SeqAt.shaped d = true ∧ Q (.int ((ds.countP fun z => PyData.eqv z d) : Nat)) H
theorem mt_countD {X : Cx} (hu : X.A.units + 65 < cLine) : MtR X "list.count" (rCountD X.K) := by
  intro pins s σ H x xs v us Q I rx rxs h
  obtain ⟨a, y, d, ds, rfl, rfl, hl, hy, sl, sd, q⟩ := h
  cases rx
  obtain ⟨u, rfl, ru⟩ := rxs.one
  obtain ⟨bs, r1⟩ := Dp.reads I d y u hy ru
  have hxs : PyData.canLayAll0 ds = true := SeqAt.canLay_of_shaped sl
  cases hl with
  | lst hs ha =>
    obtain ⟨its, rv, ⟨⟨cls, dd, data, sls⟩, n, ho, hc, hdn, hdt⟩, hlen⟩ := I.list hs
    simp only at hc hdt
    subst hc hdt
    obtain ⟨as, r2⟩ := Dp.readsAll I ds _ its ha rv
    have hmap : its.map (SeqAt.readOf s.heap) = ds := SeqAt.readsAll_map ds its as hxs r2
    have ec : its.countP (fun u => PyData.eqv (SeqAt.readOf s.heap u) d) = ds.countP fun z => PyData.eqv z d := by rw [← hmap, List.countP_map]; rfl
    refine call_meets PySem.F.slot_list_count ⟨_, ho, rfl⟩ PySem.F.entry_list_count (PySem.F.args_list_count_2 _ _)
      (SeqAt.list_countAt a its.toArray n dd sls u (fun u => PyData.eqv (SeqAt.readOf s.heap u) d)) ⟨ho, SeqAt.items_eqAt (vs := its.toArray) (show ReadsAll s.heap its.toArray.toList ds as from r2) r1 hxs (SeqAt.canLay_of_shaped sd) (room_in_shaped sd hu), ?_⟩
    exact ⟨.int ((ds.countP fun z => PyData.eqv z d) : Nat), H, I.tok _, ⟨s.toks, by rw [← ec]⟩, q⟩
def gCountD : DM := fun x ds S R => match ds with
  | [y] => ∃ ps d, S.dat x = some (.list ps) ∧ S.dat y = some d ∧ SeqAt.shaped (.list ps) = true ∧ SeqAt.shaped d = true ∧ R (dI ((ps.countP fun z => PyData.eqv z d) : Nat)) S
  | _ => False
theorem md_countD {X : Cx} (hu : X.A.units + 65 < cLine) : MthD X "list.count" gCountD := ⟨_, mt_countD hu, fun B S σ ts H x dx xs ds R Q hl h hd k => by
  match ds, hd with
  | [y], hd =>
    match xs, hl with
    | [u], _ =>
      obtain ⟨F, α, h⟩ := h
      obtain ⟨ps, d, e1, e2, s1, s2, q⟩ := hd
      have g1 := h.dat (h.tm (x, dx) (by simp)) e1 s1
      have g2 := h.dat (h.tm (u, y) (by simp)) e2 s2
      cases g1 with
      | lst a1 a2 => exact ⟨_, u, d, ps, rfl, rfl, .lst a1 a2, g2, s1, s2, k _ _ S H q ((h.sub fun p hp => by simp [hp]).add vint).ok⟩⟩
section
variable {S : DSt} {R : DV → DSt → Prop} {x y : DV} {ps : List PyData} {d : PyData}
theorem r_indexD {j : Nat} {z : PyData} (e1 : S.dat x = some (.list ps)) (e2 : S.dat y = some d) (s1 : SeqAt.shaped (.list ps) = true) (s2 : SeqAt.shaped d = true) (h1 : ps[j]? = some z) (h2 : PyData.eqv z d = true)
    (h3 : ∀ (m : Nat) (z' : PyData), m < j → ps[m]? = some z' → PyData.eqv z' d = false) (q : R (dI (j : Nat)) S) : gIndexD x [y] S R := ⟨ps, d, j, z, e1, e2, s1, s2, h1, h2, h3, q⟩
theorem r_countD (e1 : S.dat x = some (.list ps)) (e2 : S.dat y = some d) (s1 : SeqAt.shaped (.list ps) = true) (s2 : SeqAt.shaped d = true) (q : R (dI ((ps.countP fun z => PyData.eqv z d) : Nat)) S) : gCountD x [y] S R := ⟨ps, d, e1, e2, s1, s2, q⟩
end
end DL

set_option Elab.async false
set_option linter.all false
set_option maxRecDepth 100000
set_option autoImplicit false
set_option maxHeartbeats 2000000
namespace DL
open PySem PySem.Spec L2 PyProof.Rows

/-! ## x *= e for a name x and ints -/
section
variable {X : Cx} {e : Expr} {de : DTE} {pos : Pos}
theorem ds_augMul {i : Nat} {x : Str} {pos' : Pos} (hN : X.N.Nodup) (hi : X.N[i]? = some x) (hx : Loc X.env.scope x) (he : DE X e de) (hf : X.fn x = true ∨ X.env.scope.names.lookup x = some .local := by first | exact .inl rfl | exact .inr rfl | assumption) :
    DS X (.AugAssign (.Name x pos') .Mult e pos) (dAug i (gII CMul fun i j => dI (i * j)) de) := by
  obtain ⟨t, a1, a2⟩ := he.ex
  refine ⟨_, ps_aug hN hi hx a1 (ti := rI CMul fun i j => .int (i * j)) iop_mul hf, fun B S σ ts H D G h hd l => ?_⟩
  unfold dAug at hd
  cases e1 : S.get i with
  | none => rw [e1] at hd; exact hd.elim
  | some d =>
    rw [e1] at hd
    obtain ⟨F, α, h⟩ := h
    obtain ⟨v, h1, h2⟩ := h.sl i d (get_slot e1)
    refine ⟨v, h1, a2 B S σ _ H _ _ (h.add h2).ok hd fun y dy S1 H1 q o => ?_⟩
    unfold gII at q
    split at q
    · rename_i a b ea eb
      obtain ⟨c, q⟩ := q
      rw [int?_eq ea, int?_eq eb] at o
      obtain ⟨F', α', o⟩ := o
      exact ⟨a, b, vok_int o.top2, vok_int o.top, c, l.nx _ _ H1 q ((o.sub mem2).setSlot vint).ok⟩
    · exact q.elim
theorem de_callK1 {k n : Nat} {f : Addr} {fd : FuncData} {ps : List Str} {kn : Str} {dsp : DSp} {es : List Expr} {kws : List Keyword} {x : Str} {p pos : Pos} {da dk : DTA}
    (F : DFn X.prog X.w X.K X.mg X.base k f fd ps dsp) (hr : Room k X.A) (hgd : X.A.guards = some []) (hg : Gl X x) (hm : X.mg x = some (.ref f)) (hk : PySem.W.keepIn X.K (.ref f) = true) (hb : KBn X.K fd ps n [kn] (fun us ws => us ++ ws) (fun vs zs => vs ++ zs))
    (ha : DA X (e :: es) da) (hkw : DKw X kws dk) (hall : (backToKw pos (keywordEach kws X.env)).all (·.1.isSome) = true := by rfl) (hks : (backToKw pos (keywordEach kws X.env)).filterMap (·.1) = [kn] := by rfl)
    (hdb : (x == ("__debug__" : Str)) = false := by decide) (he : starEach (e :: es) X.env = (false, eval e X.env) :: starEach es X.env := by rfl)
    (hpl : ((backTo pos (starEach (e :: es) X.env)).any (·.1) || (backToKw pos (keywordEach kws X.env)).any (·.1.isNone)) = false := by rfl) :
    DE X (.Call (.Name x p) (e :: es) kws pos) (dCallK dsp n 1 da dk) := de_callK F hr hgd hg hm hk hb ha hkw hall hks hdb he hpl
theorem r_gIIc {S : DSt} {R : DV → DSt → Prop} {C : Int → Int → Prop} {f : Int → Int → DV} {m n : Int} (c : C m n) (q : R (f m n) S) : gII C f (dI m) (dI n) S R := ⟨c, q⟩
end
end DL

set_option Elab.async false
set_option linter.all false
set_option maxRecDepth 100000
set_option autoImplicit false
set_option maxHeartbeats 2000000
namespace DL
open PySem PySem.Spec L2 PyProof.Rows

/-! ## dict(xs), xs a list of pairs -/
def mergeL (kvs more : List (Leaf × V)) : List (Leaf × V) := more.foldl (fun acc kv => putK acc kv.1 kv.2) kvs
def mergeG (es more : List (Leaf × DV)) : List (Leaf × DV) := more.foldl (fun acc kv => putG acc kv.1 kv.2) es
theorem mergeL_kv {more : List (Leaf × V)} {rs : List (Leaf × Value)} (r : KV more rs) : ∀ {kvs : List (Leaf × V)} {vs : List (Leaf × Value)}, KV kvs vs → KV (mergeL kvs more) (PySem.merged vs rs) := by
  unfold KV at r
  induction r with
  | nil => exact fun h => h
  | @cons p q ps qs h _ go =>
    intro kvs vs base
    obtain ⟨e, hv⟩ := h
    refine go (show KV (putK kvs p.1 p.2) (stored vs q.1 q.2) from ?_)
    rw [← e]
    exact base.put _ hv
theorem mergeL_len : ∀ (more kvs : List (Leaf × V)), (mergeL kvs more).length ≤ kvs.length + more.length
  | [], kvs => Nat.le_refl _
  | p :: more, kvs => by
    have h1 := mergeL_len more (putK kvs p.1 p.2)
    have h2 := length_putK kvs p.1 p.2
    rw [List.length_cons]
    show (mergeL (putK kvs p.1 p.2) more).length ≤ _
    omega
section
variable {P : Program} {w : World} {K : PySem.W.Frag} {F H : Hp} {α : List Addr}
theorem mergeG_ok {more : List (Leaf × V)} {es : List (Leaf × DV)} (h : Paired (KVOk P w K F α) more es) : ∀ {kvs : List (Leaf × V)} {fs : List (Leaf × DV)}, Paired (KVOk P w K F α) kvs fs → Paired (KVOk P w K F α) (mergeL kvs more) (mergeG fs es) := by
  induction h with
  | nil => exact fun q => q
  | @cons p q ps qs h _ go =>
    intro kvs fs base
    obtain ⟨e, hv⟩ := h
    refine go (show Paired (KVOk P w K F α) (putK kvs p.1 p.2) (putG fs q.1 q.2) from ?_)
    rw [← e]
    exact putG_ok base _ hv
end
section
variable {X : Cx} {pins : List (Addr × Obj)} {σ : L2.St} {H : Hp} {s : Shared}
/-- pairs that stand in the heap, read once: their keys and values as objects, and what the keys are -/
theorem pairsZ (I : Inv X pins σ H s) {as : List Addr} {kvs : List (Leaf × V)} (h : Paired (fun p kv => SqT X.K H p [kvV kv.1, kv.2]) as kvs) :
    ∃ (vv : List (Value × Value)) (prs : List (Leaf × Value)), KV kvs prs ∧ vv.length = as.length ∧ prs.length = as.length ∧
      ∀ (j : Nat) (k v : Value), vv[j]? = some (k, v) → ∃ (b : Addr) (l : Leaf), as[j]? = some b ∧ IsTup s.heap b #[k, v] ∧ prs[j]? = some (l, v) ∧ (cK X.prog X.w).is l k = true := by
  induction h with
  | nil => exact ⟨[], [], .nil, rfl, rfl, fun j k v e => by simp at e⟩
  | @cons p kv as kvs h _ ih =>
    obtain ⟨vv, prs, r, l1, l2, hp⟩ := ih
    obtain ⟨its, rv, tup, _⟩ := I.tuple h
    obtain ⟨k, v, rfl, rk, rv2⟩ := vals2 rv
    refine ⟨(k, v) :: vv, (kv.1, v) :: prs, .cons ⟨rfl, rv2⟩ r, by simp [l1], by simp [l2], fun j k' v' e => ?_⟩
    cases j with
    | zero =>
      cases (show (k, v) = (k', v') from Option.some.inj e)
      exact ⟨p, kv.1, rfl, tup, rfl, ck_of rk⟩
    | succ j =>
      obtain ⟨b, l, e1, e2, e3, e4⟩ := hp j k' v' (by simpa using e)
      exact ⟨b, l, by simpa using e1, e2, by simpa using e3, e4⟩
def rPairs (P : Program) (w : World) (K : PySem.W.Frag) : List V → Hp → VK → Prop := fun xs H Q => ∃ (a : Addr) (as : List Addr) (kvs : List (Leaf × V)), xs = [.ref a] ∧ SqL K H a (as.map V.ref) ∧ Paired (fun p kv => SqT K H p [kvV kv.1, kv.2]) as kvs ∧
  ∀ p, H p = none → Q (.ref p) (upd H p (DicO P w p (mergeL [] kvs)))
theorem call_pairsZ (hcalm : X.calm = true) : CallR X (.type "dict") (rPairs X.prog X.w X.K) := by
  intro pins s σ H xs us Q I r q
  obtain ⟨a, as, kvs, rfl, hq, hp, q⟩ := q
  obtain ⟨u, rfl, rx⟩ := vals1 r
  cases (show u = Value.ref a from rx)
  obtain ⟨its, rv, ⟨o, n, ho, hc, hd, hdat⟩, hz⟩ := I.list hq
  have ei := refs_at rv
  subst ei
  rw [List.length_map] at hz
  obtain ⟨vv, prs, rel, l1, l2, hpr⟩ := pairsZ I hp
  have items : PairItems s.heap (as.map Value.ref).toArray (fun j => as.getD j 0) vv := by
    refine ⟨by simp [l1], fun j k v e => ?_⟩
    obtain ⟨b, l, e1, e2, _⟩ := hpr j k v e
    refine ⟨by simp [e1], ?_⟩
    show PairAt s.heap (as.getD j 0) k v
    rw [show as.getD j 0 = b by simp [List.getD, e1]]
    exact .inl e2
  refine call_dict_pairs (knd := cK X.prog X.w) (kvs := prs) (PairArg.list a (as.map Value.ref).toArray (fun j => as.getD j 0) vv) (I.ok.hd hcalm) ⟨⟨o, n, ho, hc, hd, hdat⟩, items⟩ ?_ (by rw [l1]; exact hz) fun h' tk hd' k => ?_
  · refine ⟨by rw [l1, l2], fun i k v e => ?_⟩
    obtain ⟨b, l, _, _, e3, e4⟩ := hpr i k v e
    exact ⟨l, e3, e4⟩
  · have big : (s.heap.objs.size == sysModules) = false := beq_eq_false_iff_ne.mpr (Nat.ne_of_gt I.big)
    have hlen : (mergeL [] kvs).length ≤ sizeLine := by
      have h1 := mergeL_len kvs []
      have h2 := Paired.length hp
      rw [List.length_nil] at h1
      omega
    exact ⟨.ref s.heap.objs.size, _, I.laid (t' := tk) (fun b o e => k b o (by simp) e) (Nat.le_refl _) (dz_ok hlen big (mergeL_kv rel .nil) hd'), rfl, q _ (I.hok.fresh (Nat.le_refl _))⟩
end
/-! ### over data -/
def pairsL : List PyData → Option (List (Leaf × DV))
  | [] => some []
  | .tuple [k, v] :: r => match leafOf k, pairsL r with
    | some l, some s => some ((l, .imm v) :: s)
    | _, _ => none
  | _ => none
section
variable {P : Program} {w : World} {K : PySem.W.Frag} {F H : Hp} {α : List Addr}
theorem pairs_data (fh : ∀ b o, F b = some o → H b = some o) : ∀ {ps : List PyData} {xs : List V} {es : List (Leaf × DV)}, RpAll P w K F xs ps → pairsL ps = some es →
    ∃ (as : List Addr) (kvs : List (Leaf × V)), xs = as.map V.ref ∧ Paired (fun p kv => SqT K H p [kvV kv.1, kv.2]) as kvs ∧ Paired (KVOk P w K F α) kvs es
  | [], _, es, h, e => by
    cases h
    cases e
    exact ⟨[], [], rfl, .nil, .nil⟩
  | p :: ps, _, es, h, e => by
    cases h with
    | cons h1 h2 =>
      unfold pairsL at e
      split at e
      · rename_i e0; cases e0
      · rename_i k v r e0
        cases e0
        split at e
        · rename_i l s e1 e2
          cases e
          obtain ⟨as, kvs, rfl, q1, q2⟩ := pairs_data fh h2 e2
          obtain ⟨a, ys, rfl, t1, t2⟩ := rp_tup (α := α) h1
          cases t2 with
          | cons u1 t2 => cases t2 with
            | cons u2 t2 =>
              cases t2
              have ek := key_ok (α := α) (d := .imm k) u1 (k := l) e1
              subst ek
              exact ⟨a :: as, (l, _) :: kvs, rfl, .cons (t1.up fh).t q1, .cons ⟨rfl, u2⟩ q2⟩
        · cases e
      · cases e
end
def gDictP : DC1 := fun ds S R => match ds with
  | [.imm (.list ps)] => ∃ es, pairsL ps = some es ∧ R (.cell S.μ.length) (S.new (.dic (mergeG [] es)))
  | _ => False
theorem cd_dictP {X : Cx} (hc : X.calm = true) : CallD X (.type "dict") gDictP := ⟨_, call_pairsZ hc, fun B S σ ts H xs ds R Q hl h hd k => by
  match ds, hd with
  | [.imm (.list ps)], hd =>
    match xs, hl with
    | [y], _ =>
      obtain ⟨F, α, h⟩ := h
      have h1 := h.tm (y, .imm (.list ps)) (by simp)
      obtain ⟨es, e, hd⟩ := hd
      cases h1 with
      | lst hF hr =>
        obtain ⟨as, kvs, rfl, q1, q2⟩ := pairs_data (α := α) h.fh hr e
        refine ⟨_, as, kvs, rfl, SqL.of (h.fh _ _ hF), q1, fun p hp => ?_⟩
        exact k _ _ _ _ hd (((h.sub memA).cellNew (o := DicO X.prog X.w p (mergeL [] kvs)) (u := .dic (mergeG [] es)) hp ⟨_, upd_same, paired_up (fun _ _ q => ⟨q.1, q.2.up (Ex.refl _)⟩) (mergeG_ok q2 .nil)⟩).add (d := .cell S.μ.length) ⟨p, by rw [← h.al, List.getElem?_append_right (Nat.le_refl _), Nat.sub_self]; rfl, rfl⟩).ok⟩
section
variable {S : DSt} {R : DV → DSt → Prop}
theorem r_dictP {ps : List PyData} {es : List (Leaf × DV)} (e : pairsL ps = some es) (q : R (.cell S.μ.length) (S.new (.dic (mergeG [] es)))) : gDictP [.imm (.list ps)] S R := ⟨es, e, q⟩
end
end DL

set_option Elab.async false
set_option linter.all false
set_option maxRecDepth 100000
set_option autoImplicit false
set_option maxHeartbeats 2000000
namespace DL
open PySem PySem.Spec L2 PyProof.Rows

/-! ## for k, v in d.items(): the dict is locked while it is walked -/
/-- the entries of a locked dict, each as a new pair -/
def Iti2 (P : Program) (w : World) (a : Addr) (ob : Obj) (kvs : List (Leaf × V)) : It :=
  ⟨fun i H => H a = some (LckO P w ob kvs a) ∧ i < kvs.length, fun i H x H' => ∃ T l v, kvs[i]? = some (l, v) ∧ x = .ref T ∧ H T = none ∧ H' = upd H T (.tup [kvV l, v]), fun i H => H a = some (LckO P w ob kvs a) ∧ kvs.length ≤ i⟩
section
variable {X : Cx} {pins : List (Addr × Obj)} {σ : L2.St} {H : Hp} {s : Shared} {a : Addr} {ob : Obj} {kvs : List (Leaf × V)}
theorem lck_raw2 {h : Heap} {vs : List (Leaf × Value)} (ho : h.get? a = some ob) (r : KV kvs vs) (dd : h.DictOf (cK X.prog X.w) a vs) :
    ∃ es ep, ob.data = .dict es ep ∧ h.DictRaw a es ep ∧ es.size = kvs.length ∧ ∀ i (hi : i < es.size) l v, kvs[i]? = some (l, v) → RelV (kvV l) es[i].key ∧ RelV v es[i].val := by
  obtain ⟨es, ep, hr, hs, hk⟩ := dd.raw
  have hl := Paired.length r
  obtain ⟨o, o1, o2, o3⟩ := id hr
  cases ho.symm.trans o1
  refine ⟨es, ep, o3, hr, by rw [hs, hl], fun i hi l v e => ?_⟩
  obtain ⟨q, q1, q2⟩ := pget i r e
  obtain ⟨l', u⟩ := q
  have e1 : l = l' := q2.1
  subst e1
  obtain ⟨g1, g2⟩ := hk i hi l u q1
  exact ⟨ck_rel g1, by rw [g2]; exact q2.2⟩
/-- the kit's walk of the items (WalksT.rawItems), as a turn over the tracked part -/
theorem turn_itz {P : Program} {w : World} {K : PySem.W.Frag} {elts : List Expr} {kk : Nat} {tpos : Pos} (it : Addr) {es : Array DictEntry} {ep : Nat} (hd : ob.data = .dict es ep) (hne : a ≠ it) :
    Turn P w K (.Tuple elts kk tpos) (Iti2 P w a ob kvs) [it] it (fun i h => ∃ ok ov, IsItemIter h it a i es.size ep ok ov) := by
  refine ⟨List.mem_singleton.mpr rfl, ?_, ?_, ?_, ?_, fun A i s Q E ⟨_, _, hit⟩ q => wpAny_pyIter_itemiter hit q⟩
  · rintro i h ⟨ok, ov, e⟩ b hb
    rw [List.mem_singleton.mp hb]
    exact ⟨_, e, fun v z => nomatch z⟩
  · rintro i h h' ⟨ok, ov, e⟩ kept
    exact ⟨ok, ov, kept it (List.mem_singleton.mpr rfl) _ e⟩
  · rintro X rfl rfl rfl hc i pins s σ H E I free ⟨ok, ov, e⟩ ⟨hH, hi⟩
    obtain ⟨ho, _, _, vs, rel, dd⟩ := lck_of I hH
    obtain ⟨es', ep', q1, q2, q3, q4⟩ := lck_raw2 (X := X) ho rel dd
    cases hd.symm.trans q1
    obtain ⟨⟨l, v⟩, hlv⟩ : ∃ p, kvs[i]? = some p := ⟨kvs[i], List.getElem?_eq_getElem hi⟩
    have hlt : i < es.size := by rw [q3]; exact hi
    obtain ⟨rk, rv⟩ := q4 i hlt l v hlv
    have W := WalksT.rawItems (prog := X.prog) (w := X.w) (A := X.A) (I.ok.hd hc) it a hne es ep
    refine W.item i s _ E hlt ⟨⟨ok, ov, e⟩, q2⟩ fun T vals h1 tk hP hT tupT mid k1 => ⟨_, rfl, W.go elts kk tpos i T _ _ E mid fun h2 st k2 => ?_⟩
    obtain ⟨_, rfl⟩ := hP
    obtain ⟨⟨ok', ov', e'⟩, _⟩ := st
    obtain ⟨oT, gT, cT, nT, dT⟩ := tupT
    have gT2 := k2 T oT (W.apart i T h1 mid) gT
    have lay : ObjOk X.prog X.w (upd H T (.tup [kvV l, v])) h2 T (.tup [kvV l, v]) := ⟨two_fits, _, .cons rk (.cons rv .nil), oT, gT2, cT, nT, dT⟩
    refine ⟨.ref T, _, I.turnedNew (ch := [it]) (t' := tk) (fun b o hb q => k2 b o hb (k1 b o hb q)) free hT lay, rfl, ⟨T, l, v, hlv, rfl, I.hok.fresh hT, rfl⟩, ⟨ok', ov', e'⟩, fun b hb => ?_⟩
    rw [upd_ne fun z => W.apart i T h1 mid (by rw [← z]; exact hb)]
    exact (free b hb).1
  · rintro X rfl rfl rfl hc i pins s σ H E I free ⟨ok, ov, e⟩ ⟨hH, hi⟩
    obtain ⟨ho, _, _, vs, rel, dd⟩ := lck_of I hH
    obtain ⟨es', ep', q1, q2, q3, q4⟩ := lck_raw2 (X := X) ho rel dd
    cases hd.symm.trans q1
    obtain ⟨p0, p1, p2, p3, p4, p5⟩ := free it (List.mem_singleton.mpr rfl)
    exact wpAny_pyNext_items_end_raw (I.ok.hd hc) e q2 (by rw [q3]; exact hi) fun h1 k1 => ⟨rfl, I.turned (t' := s.toks) (fun b o hb q => k1 b o hb q) p0 p1 p3 p4 p5⟩
def iItemsZ (P : Program) (w : World) (te : TE) : TI := fun σ H R => te σ H fun x H1 => ∃ a kvs, x = .ref a ∧ H1 a = some (DicO P w a kvs) ∧ ∀ ob, R (Iti2 P w a ob kvs) (upd H1 a (LckO P w ob kvs a))
theorem pi_itz {elts : List Expr} {kk : Nat} {tpos apos cpos : Pos} {e : Expr} {te : TE} (he : PE X e te) (hbase : attributeBase e "items" X.env (eval e X.env) = eval e X.env := by rfl) (hline : (apos.endLine == cpos.line) = true := by rfl) :
    PI X (.Tuple elts kk tpos) (.Call (.Attribute e "items" apos) [] [] cpos) (iItemsZ X.prog X.w te) := ⟨fun pins s σ H R I h => by
  refine wpAny_Call_method (T := "dict") (id := "dict.items") hbase rfl hline PySem.F.plainAttrs_dict PySem.F.slot_dict_items PySem.F.type_dict_items (thn (he.run pins s σ H _ I h) fun u s1 hx => ?_)
  obtain ⟨x, H1, I1, rx, d, kvs, rfl, hH, q⟩ := hx
  cases (show u = Value.ref d from rx)
  obtain ⟨z, hne, vs, rel, dd⟩ := dz_of I1 hH
  have he' : ∃ o, s1.heap.get? d = some o := let ⟨o, _, _, ho, _⟩ := dd; ⟨o, ho⟩
  obtain ⟨ob, ho⟩ := he'
  obtain ⟨es, ep, q1, q2, q3, q4⟩ := lck_raw2 (X := X) ho rel dd
  have I2 : Inv X pins σ (upd H1 d (LckO X.prog X.w ob kvs d)) { s1 with heap := s1.heap, toks := s1.toks } :=
    I1.write (x := d) (e := d) (by rw [hH]; exact True.intro) (.inl rfl) (fun _ _ _ q => q) ⟨ob, ho⟩ (lck_ok ho z hne rel dd)
  have hdl : d < s1.heap.objs.size := Heap.lt_size ho
  let view : Obj := { cls := .type "dict_items", data := .fields #[.ref d] }
  have I3 : Inv X pins σ (upd H1 d (LckO X.prog X.w ob kvs d)) { s1 with heap := s1.heap.push view } := I2.kept (t' := s1.toks) fun b o e => Heap.get?_push_of_some _ e
  have fin : wpAny (model X.prog X.w) X.A (pyIter (.ref s1.heap.objs.size)) (PIE X pins σ (.Tuple elts kk tpos) R) X.xe { s1 with heap := s1.heap.push view } := by
    refine wpAny_pyIter_items_raw (v := s1.heap.objs.size) (d := d) ⟨_, Heap.get?_push_size _ rfl, rfl, rfl⟩ (q2.push _) (pi_one (tk := s1.toks) I3 _ (turn_itz _ q1 ?_) ⟨.none, .none, Heap.get?_push_size _ rfl⟩ (q ob))
    exact Nat.ne_of_lt (Nat.lt_of_lt_of_le hdl (by rw [Heap.size_push]; exact Nat.le_succ _))
  refine ⟨dd.typeIs, dd.mapOf.noDict, ?_⟩
  show wpAny _ _ (callWith cpos (.builtin "dict.items") [.ref d] [] []) _ X.xe s1
  exact method_meetsIn PySem.F.slot_dict_items PySem.F.entry_dict_items rfl (PySem.evalArgs_none ⟨rfl, dd.typeIs, PySem.F.args_dict_items_1 _, _, meets_dict_items_raw d hne, ⟨⟨es, ep, q2⟩, fin⟩⟩)⟩
end
/-! ### over data -/
def diItems (P : Program) (w : World) (de : DTE) : DTI := fun S R => de S fun d S1 => ∃ k es, d = .cell k ∧ S1.cell k = some (.dic es) ∧
  ∀ ob fs, R (es.map fun p => DY.two (.imm (kvD p.1)) p.2) (fun S' => S'.cell k = some (.ho (LckO P w ob fs))) (S1.put k (.ho (LckO P w ob fs)))
section
variable {P : Program} {w : World} {K : PySem.W.Frag} {B : Bs} {S S' : DSt} {σ : L2.St} {ts : List (V × DV)} {H F : Hp} {α : List Addr} {v : V} {d : DV}
theorem mem_dc {fs : List (Leaf × V)} {es : List (Leaf × DV)} : ∀ {i : Nat} {l l' : Leaf} {u : V} {d : DV}, fs[i]? = some (l, u) → es[i]? = some (l', d) → (u, d) ∈ DcL fs es := by
  intro i
  unfold DcL
  induction fs generalizing es i with
  | nil => intro l l' u d h; simp at h
  | cons p fs ih =>
    intro l l' u d h1 h2
    cases es with
    | nil => simp at h2
    | cons q es =>
      cases i with
      | zero =>
        cases (show p = (l, u) from Option.some.inj h1)
        cases (show q = (l', d) from Option.some.inj h2)
        exact List.mem_cons_self
      | succ i => exact List.mem_cons_of_mem _ (ih (by simpa using h1) (by simpa using h2))
theorem snd_items {te : TE} {de : DTE} (he : SndE P w K te de) : SndI P w K (iItemsZ P w te) (diItems P w de) := fun B S σ ts H R Q h hd kk =>
  he B S σ ts H _ _ h hd fun x dx S1 H1 q o => by
    obtain ⟨k, es, rfl, e1, q⟩ := q
    obtain ⟨F, α, o⟩ := o
    obtain ⟨a, c1, rfl⟩ := o.top
    obtain ⟨a', g1, g2, xs, g3, g4⟩ := o.ce k _ (cell_get e1)
    cases c1.symm.trans g1
    refine ⟨a, xs, rfl, g3, fun ob => ?_⟩
    have hlen : xs.length = es.length := Paired.length g4
    have o2 := o.cellPut (o := LckO P w ob xs a) (u := .ho (LckO P w ob xs)) g1 g2 upd_same
    have o3 : StAt P w K B (S1.put k (.ho (LckO P w ob xs))) σ (((.ref a, .cell k) :: DcL xs es) ++ ts) (upd H1 a (LckO P w ob xs a)) F α := by
      refine { o2 with tm := fun z hz => ?_ }
      rcases List.mem_append.mp hz with hz | hz
      · rcases List.mem_cons.mp hz with rfl | hz
        · exact o2.tm _ List.mem_cons_self
        · exact mem_dcL g4 z hz
      · exact o2.tm z (List.mem_cons_of_mem _ hz)
    have same : ∀ (B2 : Bs) (S2 : DSt) (σ2 : L2.St) (H2 : Hp) (vs : List (V × DV)), (V.ref a, DV.cell k) ∈ vs → S2.cell k = some (.ho (LckO P w ob xs)) → StOk P w K B2 S2 σ2 vs H2 → H2 a = some (LckO P w ob xs a) := fun B2 S2 σ2 H2 vs hm hs ⟨F2, α2, z⟩ => by
      obtain ⟨b, b1, b2⟩ := z.tm _ hm
      cases b2
      obtain ⟨b', b1', b2', b3⟩ := z.ce k _ (cell_get hs)
      cases b1.symm.trans b1'
      exact b3
    refine kk _ _ _ _ (Iti2 P w a ob xs) (fun H2 => H2 a = some (LckO P w ob xs a)) (fun i H2 v H3 => ∃ T l u, xs[i]? = some (l, u) ∧ v = .ref T ∧ H2 T = none ∧ H3 = upd H2 T (.tup [kvV l, u])) ((.ref a, .cell k) :: DcL xs es) (q ob xs) o3.ok ?_ ?_ ?_
    · exact ⟨fun i H2 hi hG => ⟨hG, by rw [List.length_map] at hi; omega⟩, fun H2 hG => ⟨hG, by rw [List.length_map]; omega⟩, fun i H2 v H3 hi _ y => y⟩
    · exact fun B2 S2 σ2 H2 vs hv hs o2 => same B2 S2 σ2 H2 vs (hv _ (by simp)) hs o2
    · rintro B2 i S2 σ2 H2 v H3 vs hi hv hs ⟨F2, α2, z⟩ ⟨T, l, u, hlu, rfl, hT, rfl⟩
      obtain ⟨⟨l', d⟩, hd, hkv⟩ := pget i g4 hlu
      have el : l = l' := hkv.1
      subst el
      have hFT := z.freeF hT
      have hαT : T ∉ α2 := fun y => z.an T y hT
      have hud := z.tm (u, d) (hv _ (List.mem_cons_of_mem _ (mem_dc hlu hd)))
      exact ⟨.two (.imm (kvD l)) d, by rw [List.getElem?_map, hd]; rfl, F2, α2, z.free hαT hFT (z.freshB hT), T, kvV l, u, rfl, upd_same, kvD_rp (α := α2) l, hud⟩
theorem di_items {X : Cx} {e : Expr} {de : DTE} {elts : List Expr} {kk : Nat} {tpos apos cpos : Pos} (he : DE X e de) (hbase : attributeBase e "items" X.env (eval e X.env) = eval e X.env := by rfl) (hline : (apos.endLine == cpos.line) = true := by rfl) :
    DI X (.Tuple elts kk tpos) (.Call (.Attribute e "items" apos) [] [] cpos) (diItems X.prog X.w de) := by
  obtain ⟨t, a1, a2⟩ := he.ex
  exact ⟨_, pi_itz a1 hbase hline, snd_items a2⟩
end
section
variable {P : Program} {w : World} {S : DSt} {de : DTE} {RI : List DY → (DSt → Prop) → DSt → Prop} {k : Nat} {es : List (Leaf × DV)}
def kItems (P : Program) (w : World) (RI : List DY → (DSt → Prop) → DSt → Prop) : DV → DSt → Prop := fun d S1 => ∃ k es, d = .cell k ∧ S1.cell k = some (.dic es) ∧
  ∀ ob fs, RI (es.map fun p => DY.two (.imm (kvD p.1)) p.2) (fun S' => S'.cell k = some (.ho (LckO P w ob fs))) (S1.put k (.ho (LckO P w ob fs)))
theorem r_iItems (h : de S (kItems P w RI)) : diItems P w de S RI := h
theorem r_kItems (e : S.cell k = some (.dic es)) (q : ∀ ob fs, RI (es.map fun p => DY.two (.imm (kvD p.1)) p.2) (fun S' => S'.cell k = some (.ho (LckO P w ob fs))) (S.put k (.ho (LckO P w ob fs)))) : kItems P w RI (.cell k) S := ⟨k, es, rfl, e, q⟩
end
/-! ## d != e for equal dicts -/
def rDEq (P : Program) (w : World) (res : Bool) : R2 := fun x y H Q => ∃ a b ks ls, x = .ref a ∧ y = .ref b ∧ H a = some (DicO P w a ks) ∧ H b = some (DicO P w b ls) ∧ ks.length = ls.length ∧ (∀ p ∈ ks, valV ls p.1 = some p.2 ∧ flatB p.2 = true) ∧ Q (.bl res) H
theorem hitsZ {A : Around} {s : Shared} {ls : List (Leaf × V)} {vb : List (Leaf × Value)} (rb : KV ls vb) {ks : List (Leaf × V)} {va : List (Leaf × Value)} (ra : KV ks va) : (∀ p ∈ ks, valV ls p.1 = some p.2 ∧ flatB p.2 = true) → PySem.W.KeqHits A s vb va true := by
  unfold KV at ra
  induction ra with
  | nil => exact fun _ => .nil
  | @cons p q ps qs h _ ih =>
    intro hp
    obtain ⟨h1, h2⟩ := h
    obtain ⟨e, f⟩ := hp p List.mem_cons_self
    obtain ⟨y, hy, ry⟩ := RelO.some_of (v := p.2) (o := valueAt vb p.1) (by rw [← e]; exact rb.val p.1)
    obtain ⟨key, v⟩ := q
    have h1 : p.1 = key := h1
    rw [h1] at hy
    show PySem.W.KeqHits A s vb ((key, v) :: qs) (true && true)
    exact .hit hy (eqAt_same h2 ry f) (ih fun p' hm => hp p' (List.mem_cons_of_mem _ hm))
section
variable {X : Cx}
theorem op_neZ (hu : X.A.units < cLine) : OpR X (compareOp .NotEq) (rDEq X.prog X.w false) := by
  intro pins s σ H x y v u Q I rx ry h
  obtain ⟨a, b, ks, ls, rfl, rfl, ha, hb, hl, hp, q⟩ := h
  cases (show v = Value.ref a from rx)
  cases (show u = Value.ref b from ry)
  obtain ⟨_, na, va, ra, da⟩ := dz_of I ha
  obtain ⟨_, nb, vb, rb, db⟩ := dz_of I hb
  refine PySem.W.keq_ne (knd := cK X.prog X.w) (r := true) na nb da db hu (fun _ => hitsZ rb ra hp) ?_
  have e : va.length = vb.length := by rw [← Paired.length ra, ← Paired.length rb]; exact hl
  rw [show (!(va.length == vb.length && true)) = false by rw [e]; simp]
  exact ⟨.bl false, H, I, rfl, q⟩
end
def gNeD : D2 := fun x y S R => ∃ es fs, S.dict x = some es ∧ S.dict y = some fs ∧ es.length = fs.length ∧ (∀ p ∈ es, ∃ q v, p.2 = .imm q ∧ flV q = some v ∧ valG fs p.1 = some (.imm q)) ∧ R (dB false) S
theorem flV_flat {q : PyData} {v : V} (e : flV q = some v) : flatB v = true := by cases q <;> first | (cases e; rfl) | cases e
theorem snd_neZ {P : Program} {w : World} {K : PySem.W.Frag} : SndR P w K (rDEq P w false) gNeD := fun B S σ ts H x y dx dy R Q h hd k => by
  obtain ⟨es, fs, e1, e2, hl, hp, q⟩ := hd
  obtain ⟨F, α, h⟩ := h
  obtain ⟨a, ks, rfl, hH, p1⟩ := h.dict h.top2 e1
  obtain ⟨b, ls, rfl, hH2, p2⟩ := h.dict h.top e2
  refine ⟨a, b, ks, ls, rfl, rfl, hH, hH2, by rw [Paired.length p1, Paired.length p2]; exact hl, fun p hm => ?_, k _ _ S H q ((h.sub mem2).add vbl).ok⟩
  obtain ⟨i, hi⟩ := List.getElem?_of_mem hm
  obtain ⟨⟨l, d⟩, g1, g2, g3⟩ := pget i p1 hi
  obtain ⟨z, v, rfl, f1, f2⟩ := hp (l, d) (List.mem_of_getElem? g1)
  have g2 : p.1 = l := g2
  obtain ⟨v', w1, w2⟩ := valG_ok p2 f2
  have x1 := flV_ok f1 g3
  have x2 := flV_ok f1 w2
  rw [g2, x1]
  exact ⟨by rw [← x2]; exact w1, flV_flat f1⟩
theorem od_neZ {X : Cx} (hu : X.A.units < cLine) : OpD X (compareOp .NotEq) gNeD := ⟨_, op_neZ hu, snd_neZ⟩
theorem r_neD {S : DSt} {R : DV → DSt → Prop} {x y : DV} {es fs : List (Leaf × DV)} (e1 : S.dict x = some es) (e2 : S.dict y = some fs) (hl : es.length = fs.length) (hp : ∀ p ∈ es, ∃ q v, p.2 = .imm q ∧ flV q = some v ∧ valG fs p.1 = some (.imm q)) (q : R (dB false) S) : gNeD x y S R := ⟨es, fs, e1, e2, hl, hp, q⟩
end DL

set_option Elab.async false
set_option linter.all false
set_option maxRecDepth 100000
set_option autoImplicit false
set_option maxHeartbeats 2000000
namespace DL
open PySem PySem.Spec L2 PyProof.Rows

theorem od_neXD {X : Cx} (hu : X.A.units + 64 < cLine) : OpD X (compareOp .NotEq) (gOr gNeX gNeD) := by
  obtain ⟨r, a1, a2⟩ := (od_neX (X := X) hu).ex
  obtain ⟨r', b1, b2⟩ := (od_neZ (X := X) (by omega)).ex
  exact ⟨_, .or a1 b1, snd_rOr a2 b2⟩
/-! ## d.get(k, x) -/
def tGetZ (P : Program) (w : World) (td ty tx : TE) : TE := fun σ H Q => td σ H fun x H1 => ∃ a, x = .ref a ∧ (∃ kvs, H1 a = some (DicO P w a kvs)) ∧
  ty σ H1 fun y H2 => tx σ H2 fun z H3 => ∃ kvs k, H3 a = some (DicO P w a kvs) ∧ y = kvV k ∧ Q ((valV kvs k).getD z) H3
section
variable {X : Cx} {o e f : Expr} {apos cpos : Pos} {td ty tx : TE} {do' dy dx : DTE}
theorem pe_getZ (ho : PE X o td) (he : PE X e ty) (hf : PE X f tx) (m : M2 X o "get" apos e f cpos) : PE X (.Call (.Attribute o "get" apos) [e, f] [] cpos) (tGetZ X.prog X.w td ty tx) := ⟨fun pins s σ H Q I h => by
  refine wpAny_Call_method m.base m.few m.line PySem.F.plainAttrs_dict PySem.F.slot_dict_get PySem.F.type_dict_get (thn (ho.run pins s σ H _ I h) fun u s1 hu => ?_)
  obtain ⟨x, H1, I1, rx, a, rfl, ⟨kvs0, hH0⟩, q1⟩ := hu
  cases (show u = Value.ref a from rx)
  obtain ⟨_, _, _, _, d0⟩ := dz_of I1 hH0
  refine ⟨d0.typeIs, d0.mapOf.noDict, ?_⟩
  rw [m.trees]
  refine Calls.callWith_builtin rfl (Calls.evalArgs_plain (Calls.spliced_cons (thn (he.run pins s1 σ H1 _ I1 q1) fun iv s2 ⟨y, H2, I2, ry, q2⟩ =>
    Calls.spliced_cons (thn (hf.run pins s2 σ H2 _ I2 q2) fun fv s3 hf3 => Calls.spliced_nil ?_))))
  obtain ⟨z, H3, I3, rz, kvs, k, hH, rfl, q⟩ := hf3
  obtain ⟨_, hd, vs, rel, dd⟩ := dz_of I3 hH
  refine call_meetsIn PySem.F.slot_dict_get dd.typeIs PySem.F.entry_dict_get (PySem.F.args_dict_get_3 _ _ _) (meets_dict_get_default (cK X.prog X.w) a (ck_of ry) hd fv) ⟨_, dd.mapOf, ?_⟩
  exact ⟨_, H3, I3.tok _, (rel.val k).getD rz, q⟩⟩
def kGetZ (dy dx : DTE) (R : DV → DSt → Prop) : DV → DSt → Prop := fun o S1 => match o with
  | .cell j => (∃ es, S1.cell j = some (.dic es)) ∧ dy S1 fun y S2 => dx S2 fun z S3 => ∃ es l, S3.cell j = some (.dic es) ∧ keyOf y = some l ∧ R ((valG es l).getD z) S3
  | _ => False
def dGetZ (do' dy dx : DTE) : DTE := fun S R => do' S (kGetZ dy dx R)
theorem valG_none {P : Program} {w : World} {K : PySem.W.Frag} {F : Hp} {α : List Addr} {kvs : List (Leaf × V)} {es : List (Leaf × DV)} (h : Paired (KVOk P w K F α) kvs es) {k : Leaf} (e : valG es k = none) : valV kvs k = none := by
  have := valG_some h k
  rw [e] at this
  cases q : valV kvs k with
  | none => rfl
  | some v => rw [q] at this; cases this
theorem de_getZ (ho : DE X o do') (he : DE X e dy) (hf : DE X f dx) (m : M2 X o "get" apos e f cpos) : DE X (.Call (.Attribute o "get" apos) [e, f] [] cpos) (dGetZ do' dy dx) := by
  obtain ⟨t, a1, a2⟩ := ho.ex
  obtain ⟨ty, b1, b2⟩ := he.ex
  obtain ⟨tx, c1, c2⟩ := hf.ex
  refine ⟨_, pe_getZ a1 b1 c1 m, fun B S σ ts H R Q h hd kk => a2 B S σ ts H _ _ h hd fun x d S1 H1 q o1 => ?_⟩
  unfold kGetZ at q
  split at q
  · rename_i j
    obtain ⟨⟨es0, e0⟩, q⟩ := q
    obtain ⟨F1, α1, o1⟩ := o1
    obtain ⟨a, c1', rfl⟩ := o1.top
    obtain ⟨a', g1, g2, xs0, g3, g4⟩ := o1.ce j _ (cell_get e0)
    cases c1'.symm.trans g1
    refine ⟨a, rfl, ⟨xs0, g3⟩, b2 B S1 σ _ H1 _ _ o1.ok q fun y dy' S2 H2 q2 o2 => c2 B S2 σ _ H2 _ _ o2 q2 fun z dz S3 H3 q3 o3 => ?_⟩
    obtain ⟨es, l, e3, ek, q3⟩ := q3
    obtain ⟨F3, α3, o3⟩ := o3
    obtain ⟨b, b1', b2'⟩ := o3.tm (.ref a, .cell j) (by simp)
    cases b2'
    obtain ⟨b', n1, n2, xs, n3, n4⟩ := o3.ce j _ (cell_get e3)
    cases b1'.symm.trans n1
    have hy := o3.tm (y, dy') (by simp)
    have hz := o3.tm (z, dz) (by simp)
    refine ⟨xs, l, n3, key_ok hy ek, kk _ _ S3 H3 q3 ?_⟩
    cases ev : valG es l with
    | none =>
      rw [valG_none n4 ev]
      exact ((o3.sub fun p hp => by simp [hp]).add hz).ok
    | some d' =>
      obtain ⟨v, w1, w2⟩ := valG_ok n4 ev
      rw [w1]
      exact ((o3.sub fun p hp => by simp [hp]).add w2).ok
  · exact q.elim
end
section
variable {S : DSt} {R : DV → DSt → Prop} {do' dy dx : DTE} {j : Nat} {es : List (Leaf × DV)} {l : Leaf} {y z : DV}
theorem r_getZ (h : do' S (kGetZ dy dx R)) : dGetZ do' dy dx S R := h
theorem r_kGetZ (e : S.cell j = some (.dic es)) (h : dy S fun y S2 => dx S2 fun z S3 => ∃ es l, S3.cell j = some (.dic es) ∧ keyOf y = some l ∧ R ((valG es l).getD z) S3) : kGetZ dy dx R (.cell j) S := ⟨⟨es, e⟩, h⟩
theorem r_neXP {x y : DV} (q : gNeX x y S R) : gOr gNeX gNeD x y S R := .inl q
theorem r_neXD {x y : DV} {es fs : List (Leaf × DV)} (e1 : S.dict x = some es) (e2 : S.dict y = some fs) (hl : es.length = fs.length) (hp : ∀ p ∈ es, ∃ q v, p.2 = .imm q ∧ flV q = some v ∧ valG fs p.1 = some (.imm q)) (q : R (dB false) S) : gOr gNeX gNeD x y S R := .inr ⟨es, fs, e1, e2, hl, hp, q⟩
end
end DL

set_option Elab.async false
set_option linter.all false
set_option maxRecDepth 100000
set_option autoImplicit false
set_option maxHeartbeats 2000000
namespace DL
open PySem PySem.Spec L2 PyProof.Rows

/-! ## len(set(xs)), xs a list of tuples of ints -/
def tLenSetT (K : PySem.W.Frag) (te : TE) : TE := fun σ H Q => te σ H fun x H1 => ∃ (l : Addr) (ks : List (Addr × List Int)), x = .ref l ∧ SqL K H1 l (ks.map fun p => V.ref p.1) ∧ (∀ p ∈ ks, SqT K H1 p.1 (p.2.map V.int)) ∧ ks.length < 64 ∧
  ∀ L : List (List Int), L.Nodup → (∀ r, r ∈ L ↔ r ∈ ks.map (·.2)) → Q (.int L.length) H1
section
variable {X : Cx} {a : Expr} {te : TE} {de : DTE} {p p2 q pos : Pos}
theorem pe_lenSetT (hc : X.calm = true) (hu : X.A.units + 64 < cLine) (hg : Gl X "len") (hm : X.mg "len" = none) (hg2 : Gl X "set") (hm2 : X.mg "set" = none) (ha : PE X a te)
    (na : starEach [a] X.env = (false, eval a X.env) :: starEach [] X.env := by rfl) : PE X (.Call (.Name "len" p) [.Call (.Name "set" p2) [a] [] q] [] pos) (tLenSetT X.K te) := ⟨fun pins s σ H Q I h => by
  refine Call_ (ld_blt I hg hm PySem.boot_len (PyProof.Rows.callWith_builtin1 (PyProof.Rows.args_cons ?_ rfl) rfl rfl))
  refine Call_ (ld_blt I hg2 hm2 PyProof.Rows.boot_set (PyProof.Rows.callWith_type1 (PyProof.Rows.args_cons (thn (ha.run pins s σ H _ I h) fun v s1 hv => PyProof.Rows.args_nil ?_) na) na rfl))
  obtain ⟨x, H1, I1, r1, l, ks, rfl, hl, hk, hf, q1⟩ := hv
  cases (show v = Value.ref l from r1)
  obtain ⟨its, rv, pl, _⟩ := I1.list hl
  refine call_set_tups (P := X.prog) (w := X.w) ks (I1.ok.hd hc) pl.isList (by simpa using refs_of_vals rv) (fun p hp => I1.isT (hk p hp)) hf (by omega) fun h' tk L es ep t R g keep => PyProof.Rows.args_nil ?_
  obtain ⟨o, ho, hex, hd⟩ := R.ob
  have few := R.few
  have hsz := SetTR.size (s := { s1 with heap := h', toks := tk }) R
  have hfit := SetTR.fits (s := { s1 with heap := h', toks := tk }) R
  refine call_len_set ho hex hd hfit (by rw [hsz]; omega) ⟨.int (L.map (·.2)).length, H1, ?_, ⟨_, by rw [hsz, List.length_map]⟩, q1 _ R.nd fun r => ⟨fun z => ?_, fun z => ?_⟩⟩
  · exact (I1.kept (t' := tk) keep).tok _
  · obtain ⟨p, hp, rfl⟩ := List.mem_map.mp z
    exact List.mem_map.mpr ⟨p, List.mem_of_mem_take (g.sub p hp), rfl⟩
  · obtain ⟨p, hp, rfl⟩ := List.mem_map.mp z
    exact g.all p (by rw [List.take_length]; exact hp)⟩
def kLenSetT (R : DV → DSt → Prop) : DV → DSt → Prop := fun d S1 => ∃ rows : List (List Int), S1.seq d = some (true, rows.map fun r => DV.imm (.tuple (r.map PyData.int))) ∧ rows.length < 64 ∧
  ∀ L : List (List Int), L.Nodup → (∀ r, r ∈ L ↔ r ∈ rows) → R (dI L.length) S1
def dLenSetT (de : DTE) : DTE := fun S R => de S (kLenSetT R)
theorem rp_row {P : Program} {w : World} {K : PySem.W.Frag} {F : Hp} : ∀ {r : List Int} {ys : List V}, RpAll P w K F ys (r.map PyData.int) → ys = r.map V.int
  | [], _, .nil => rfl
  | x :: r, _, .cons h t => by
    cases h
    rw [rp_row t]
    rfl
theorem rows_ks {P : Program} {w : World} {K : PySem.W.Frag} {F H : Hp} {α : List Addr} (fh : ∀ b o, F b = some o → H b = some o) : ∀ {rows : List (List Int)} {xs : List V}, Paired (VOk P w K F α) xs (rows.map fun r => DV.imm (.tuple (r.map PyData.int))) →
    ∃ ks : List (Addr × List Int), xs = ks.map (fun p => V.ref p.1) ∧ ks.map (·.2) = rows ∧ ∀ p ∈ ks, SqT K H p.1 (p.2.map V.int)
  | [], _, .nil => ⟨[], rfl, rfl, fun _ z => nomatch z⟩
  | r :: rows, _, .cons h t => by
    obtain ⟨ks, rfl, e2, e3⟩ := rows_ks fh t
    obtain ⟨b, ys, rfl, t1, t2⟩ := rp_tup (α := α) h
    rw [rp_row t2] at t1
    refine ⟨(b, r) :: ks, rfl, by rw [List.map_cons, e2], fun p hp => ?_⟩
    rcases List.mem_cons.mp hp with rfl | hp
    · exact (t1.up fh).t
    · exact e3 p hp
theorem de_lenSetT (hc : X.calm = true) (hu : X.A.units + 64 < cLine) (hg : Gl X "len") (hm : X.mg "len" = none) (hg2 : Gl X "set") (hm2 : X.mg "set" = none) (ha : DE X a de)
    (na : starEach [a] X.env = (false, eval a X.env) :: starEach [] X.env := by rfl) : DE X (.Call (.Name "len" p) [.Call (.Name "set" p2) [a] [] q] [] pos) (dLenSetT de) := by
  obtain ⟨t, a1, a2⟩ := ha.ex
  refine ⟨_, pe_lenSetT hc hu hg hm hg2 hm2 a1 na, fun B S σ ts H R Q o hd kk => a2 B S σ ts H _ _ o hd fun x dx S1 H1 q1 o1 => ?_⟩
  obtain ⟨rows, e, hlen, q1⟩ := q1
  obtain ⟨F, α, o1⟩ := o1
  obtain ⟨l, xs, rfl, hq, hp⟩ := o1.seq o1.top e
  obtain ⟨ks, rfl, e2, e3⟩ := rows_ks o1.fh hp
  refine ⟨l, ks, rfl, hq, e3, by rw [← e2, List.length_map] at hlen; exact hlen, fun L h1 h2 => kk _ _ S1 H1 (q1 L h1 fun r => by rw [h2, e2]) ((o1.sub mem1).add vint).ok⟩
theorem r_lenSetT {S : DSt} {R : DV → DSt → Prop} (h : de S (kLenSetT R)) : dLenSetT de S R := h
theorem r_kLenSetT {S : DSt} {R : DV → DSt → Prop} {d : DV} {rows : List (List Int)} (e : S.seq d = some (true, rows.map fun r => DV.imm (.tuple (r.map PyData.int)))) (hl : rows.length < 64) (k : ∀ L : List (List Int), L.Nodup → (∀ r, r ∈ L ↔ r ∈ rows) → R (dI L.length) S) : kLenSetT R d S := ⟨rows, e, hl, k⟩
end
end DL

set_option Elab.async false
set_option linter.all false
set_option maxRecDepth 100000
set_option autoImplicit false
set_option maxHeartbeats 2000000
namespace DL
open PySem PySem.Spec L2 PyProof.Rows

/-! ## walks of a dict whose values are anything: the cell keeps its entries while it is locked -/
theorem PI.or' {X : Cx} {tg e : Expr} {t t' : TI} (h : PI X tg e t) (h' : PI X tg e t') : PI X tg e (fun σ H R => t σ H R ∨ t' σ H R) := ⟨fun pins s σ H R I q => by
  rcases q with q | q
  · exact h.run pins s σ H R I q
  · exact h'.run pins s σ H R I q⟩
/-- the dict at a is the object ob, its keys are ls -/
def LckK (P : Program) (w : World) (a : Addr) (ob : Obj) (ls : List Leaf) (H : Hp) : Prop := ∃ ys : List (Leaf × V), H a = some (LckO P w ob ys a) ∧ ys.map (·.1) = ls
/-- its keys, one by one -/
def ItK (P : Program) (w : World) (a : Addr) (ob : Obj) (ls : List Leaf) : It :=
  ⟨fun i H => LckK P w a ob ls H ∧ i < ls.length, fun i H x H' => H' = H ∧ ∃ l, ls[i]? = some l ∧ x = kvV l, fun i H => LckK P w a ob ls H ∧ ls.length ≤ i⟩
theorem turn_K {P : Program} {w : World} {K : PySem.W.Frag} {tg : Expr} {a : Addr} {ob : Obj} {ls : List Leaf} (it : Addr) {es : Array DictEntry} {ep : Nat} (hd : ob.data = .dict es ep) : Turn P w K tg (ItK P w a ob ls) [it] it (fun i h => h.IsKeyIter it a i es.size ep) where
  mem := (turn_z (P := P) (w := w) (K := K) (tg := tg) (a := a) (kvs := []) it hd).mem
  obj := (turn_z (P := P) (w := w) (K := K) (tg := tg) (a := a) (kvs := []) it hd).obj
  keep := (turn_z (P := P) (w := w) (K := K) (tg := tg) (a := a) (kvs := []) it hd).keep
  item := fun X e1 e2 e3 hc i pins s σ H E I hf st ⟨⟨ys, hH, hy⟩, hi⟩ => by
    have hl : ys.length = ls.length := by rw [← hy, List.length_map]
    refine thnF ((turn_z (P := P) (w := w) (K := K) (tg := tg) (kvs := ys) it hd).item X e1 e2 e3 hc i pins s σ H (fun _ _ => False) I hf st ⟨hH, by rw [hl]; exact hi⟩) fun r s1 ⟨u, er, h2⟩ => ⟨u, er, thnF h2 fun _ s2 hx => ?_⟩
    obtain ⟨x, H', I', rx, ⟨rfl, l, v, g1, g2⟩, rest⟩ := hx
    exact ⟨x, H', I', rx, ⟨rfl, l, by rw [← hy, List.getElem?_map, g1]; rfl, g2⟩, rest⟩
  done := fun X e1 e2 e3 hc i pins s σ H E I hf st ⟨⟨ys, hH, hy⟩, hi⟩ =>
    (turn_z (P := P) (w := w) (K := K) (tg := tg) (kvs := ys) it hd).done X e1 e2 e3 hc i pins s σ H E I hf st ⟨hH, by rw [← hy, List.length_map] at hi; exact hi⟩
  self := (turn_z (P := P) (w := w) (K := K) (tg := tg) (a := a) (kvs := []) it hd).self
def iLckK (P : Program) (w : World) (te : TE) : TI := fun σ H R => te σ H fun x H1 => ∃ a kvs, x = .ref a ∧
  ((H1 a = some (DicO P w a kvs) ∧ ∀ ob, R (ItK P w a ob (kvs.map (·.1))) (upd H1 a (LckO P w ob kvs a))) ∨ ∃ ob, H1 a = some (LckO P w ob kvs a) ∧ R (ItK P w a ob (kvs.map (·.1))) H1)
theorem pi_lckK {X : Cx} {tg e : Expr} {te : TE} (he : PE X e te) : PI X tg e (iLckK X.prog X.w te) := by
  refine ⟨fun pins s σ H R I h => thn (he.run pins s σ H _ I h) fun u s1 hx => ?_⟩
  obtain ⟨x, H1, I1, rx, d, kvs, rfl, hq⟩ := hx
  cases (show u = Value.ref d from rx)
  rcases hq with ⟨hH, q⟩ | ⟨ob, hH, q⟩
  · obtain ⟨z, hne, vs, rel, dd⟩ := dz_of I1 hH
    obtain ⟨ob, ho⟩ : ∃ o, s1.heap.get? d = some o := let ⟨o, _, _, ho, _⟩ := dd; ⟨o, ho⟩
    obtain ⟨es, ep, q1, q2, q3, q4⟩ := lck_raw (X := X) ho rel dd
    have I2 : Inv X pins σ (upd H1 d (LckO X.prog X.w ob kvs d)) { s1 with heap := s1.heap, toks := s1.toks } :=
      I1.write (x := d) (e := d) (by rw [hH]; exact True.intro) (.inl rfl) (fun _ _ _ q => q) ⟨ob, ho⟩ (lck_ok ho z hne rel dd)
    exact wpAny_pyIter_dict_raw hne q2 (pi_one (tk := s1.toks) I2 _ (turn_K _ q1) ⟨_, Heap.get?_push_size _ rfl, rfl, rfl⟩ (q ob))
  · obtain ⟨ho, z, hne, vs, rel, dd⟩ := lck_of I1 hH
    obtain ⟨es, ep, q1, q2, q3, q4⟩ := lck_raw (X := X) ho rel dd
    exact wpAny_pyIter_dict_raw hne q2 (pi_one (tk := s1.toks) I1 _ (turn_K _ q1) ⟨_, Heap.get?_push_size _ rfl, rfl, rfl⟩ q)
/-- over data: the cell k is locked from now on -/
def kLck (R : List DY → (DSt → Prop) → DSt → Prop) : DV → DSt → Prop := fun d S1 => ∃ k es, d = .cell k ∧
  ((S1.cell k = some (.dic es) ∧ ∀ ob, R (es.map fun p => DY.one (.imm (kvD p.1))) (fun S' => S'.cell k = some (.lck ob es)) (S1.put k (.lck ob es))) ∨
   (∃ ob, S1.cell k = some (.lck ob es) ∧ R (es.map fun p => DY.one (.imm (kvD p.1))) (fun S' => S'.cell k = some (.lck ob es)) S1))
def diLck (de : DTE) : DTI := fun S R => de S (kLck R)
section
variable {P : Program} {w : World} {K : PySem.W.Frag} {B : Bs} {S S' : DSt} {σ : L2.St} {ts : List (V × DV)} {H F : Hp} {α : List Addr} {v : V} {d : DV}
/-- a locked cell: its address and its entries -/
theorem StAt.cellK {k : Nat} {ob : Obj} {es : List (Leaf × DV)} (h : StAt P w K B S σ ts H F α) (hv : VOk P w K F α v (.cell k)) (e : S.cell k = some (.lck ob es)) : ∃ a ks, v = .ref a ∧ α[k]? = some a ∧ F a = none ∧ H a = some (LckO P w ob ks a) ∧ Paired (KVOk P w K F α) ks es := by
  obtain ⟨a, h1, rfl⟩ := hv
  obtain ⟨a', g1, g2, xs, g3, g4⟩ := h.ce k _ (cell_get e)
  cases h1.symm.trans g1
  exact ⟨a, xs, rfl, h1, g2, g3, g4⟩
theorem StAt.cellD {k : Nat} {es : List (Leaf × DV)} (h : StAt P w K B S σ ts H F α) (hv : VOk P w K F α v (.cell k)) (e : S.cell k = some (.dic es)) : ∃ a ks, v = .ref a ∧ α[k]? = some a ∧ F a = none ∧ H a = some (DicO P w a ks) ∧ Paired (KVOk P w K F α) ks es := by
  obtain ⟨a, h1, rfl⟩ := hv
  obtain ⟨a', g1, g2, xs, g3, g4⟩ := h.ce k _ (cell_get e)
  cases h1.symm.trans g1
  exact ⟨a, xs, rfl, h1, g2, g3, g4⟩
theorem snd_lck {te : TE} {de : DTE} (he : SndE P w K te de) : SndI P w K (iLckK P w te) (diLck de) := fun B S σ ts H R Q h hd kk =>
  he B S σ ts H _ _ h hd fun x dx S1 H1 q o => by
    obtain ⟨k, es, rfl, q⟩ := q
    obtain ⟨F, α, o⟩ := o
    -- what the walk of the locked cell gives, whichever way it was locked
    have main : ∀ (S2 : DSt) (H2 : Hp) (F2 : Hp) (α2 : List Addr) (a : Addr) (ob : Obj) (ls : List Leaf), StAt P w K B S2 σ ((.ref a, .cell k) :: ts) H2 F2 α2 → ls = es.map (·.1) → R (es.map fun p => DY.one (.imm (kvD p.1))) (fun S' => S'.cell k = some (.lck ob es)) S2 → Q (ItK P w a ob ls) H2 := by
      intro S2 H2 F2 α2 a ob ls o2 el q2
      have look : ∀ (B3 : Bs) (S3 : DSt) (σ3 : L2.St) (H3 : Hp) (vs : List (V × DV)), (∀ p ∈ [(V.ref a, DV.cell k)], p ∈ vs) → S3.cell k = some (.lck ob es) → StOk P w K B3 S3 σ3 vs H3 → LckK P w a ob ls H3 := fun B3 S3 σ3 H3 vs hm hs ⟨F3, α3, z⟩ => by
        obtain ⟨b, ys, e, _, _, e3, e4⟩ := z.cellK (z.tm (V.ref a, DV.cell k) (hm _ (by simp))) hs
        cases e
        exact ⟨ys, e3, by rw [el]; exact pair_keys e4⟩
      have hl : ls.length = es.length := by rw [el, List.length_map]
      refine kk _ _ S2 H2 (ItK P w a ob ls) (LckK P w a ob ls) (fun i H3 x H4 => H4 = H3 ∧ ∃ l, ls[i]? = some l ∧ x = kvV l) [(.ref a, .cell k)] q2 (o2.sub fun z hz => by simpa using hz).ok ?_ ?_ ?_
      · exact ⟨fun i H3 hi hG => ⟨hG, by rw [hl]; simpa using hi⟩, fun H3 hG => ⟨hG, by rw [hl]; simp⟩, fun i H3 x H4 hi _ y => y⟩
      · exact fun B3 S3 σ3 H3 vs hv hs o3 => look B3 S3 σ3 H3 vs hv hs o3
      · rintro B3 i S3 σ3 H3 x H4 vs hi hv hs ⟨F3, α3, z⟩ ⟨rfl, l, hl3, rfl⟩
        refine ⟨.one (.imm (kvD l)), ?_, F3, α3, z, kvD_rp (α := α3) l⟩
        rw [el, List.getElem?_map] at hl3
        obtain ⟨p, hp, rfl⟩ := Option.map_eq_some_iff.mp hl3
        rw [List.getElem?_map, hp]; rfl
    rcases q with ⟨e1, q⟩ | ⟨ob, e1, q⟩
    · obtain ⟨a, ks, ev, g1, g2, g3, g4⟩ := o.cellD o.top e1
      subst ev
      refine ⟨a, ks, rfl, .inl ⟨g3, fun ob => ?_⟩⟩
      exact main _ _ _ _ a ob _ (o.cellPut (o := LckO P w ob ks a) (u := .lck ob es) g1 g2 ⟨ks, upd_same, g4⟩) (pair_keys g4) (q ob)
    · obtain ⟨a, ks, ev, g1, g2, g3, g4⟩ := o.cellK o.top e1
      subst ev
      exact ⟨a, ks, rfl, .inr ⟨ob, g3, main _ _ _ _ a ob _ o (pair_keys g4) q⟩⟩
theorem di_lck {X : Cx} {tg e : Expr} {de : DTE} (he : DE X e de) : DI X tg e (diLck de) := by
  obtain ⟨t, a1, a2⟩ := he.ex
  exact ⟨_, pi_lckK a1, snd_lck a2⟩
/-! ### d[k], k in d of a locked dict -/
def gAtK : D2 := fun x y S R => ∃ k ob es l d, x = .cell k ∧ S.cell k = some (.lck ob es) ∧ keyOf y = some l ∧ valG es l = some d ∧ R d S
theorem snd_atK : SndR P w K (rAtL P w) gAtK := fun B S σ ts H x y dx dy R Q h hd k => by
  obtain ⟨j, ob, es, l, d, rfl, hc, hl, hv, q⟩ := hd
  obtain ⟨F, α, h⟩ := h
  obtain ⟨a, ks, ev, g1, g2, g3, g4⟩ := h.cellK h.top2 hc
  subst ev
  obtain ⟨v, v1, v2⟩ := valG_ok g4 hv
  exact ⟨a, ob, ks, l, v, rfl, g3, key_ok h.top hl, v1, k v d S H q ((h.sub mem2).add v2).ok⟩
theorem de_atK {X : Cx} {a b : Expr} {da db : DTE} {pos : Pos} (ha : DE X a da) (hb : DE X b db) (hs : PlainIx b := by exact fun _ _ => rfl) : DE X (.Subscript a b pos) (dOp (gOr gAt gAtK) da db) := by
  obtain ⟨ta, a1, a2⟩ := ha.ex
  obtain ⟨tb, b1, b2⟩ := hb.ex
  exact ⟨_, pe_ix (.or (.or ix_dicZ ix_seq) ix_lck) a1 b1 hs, snd_op a2 b2 (snd_rOr snd_at snd_atK)⟩
def rInLk (P : Program) (w : World) (neg : Bool) : R2 := fun x y H Q => ∃ a ob kvs k, y = .ref a ∧ H a = some (LckO P w ob kvs a) ∧ x = kvV k ∧ Q (.bl (if neg = true then !(valV kvs k).isSome else (valV kvs k).isSome)) H
theorem op_inLk {X : Cx} : OpR X (compareOp .In) (rInLk X.prog X.w false) := by
  intro pins s σ H x y v u Q I rx ry h
  obtain ⟨a, ob, kvs, k, rfl, hH, rfl, q⟩ := h
  cases (show u = Value.ref a from ry)
  obtain ⟨_, _, hd, vs, rel, dd⟩ := lck_of I hH
  have e := (rel.val k).isSome_eq
  exact wpAny_in_of (ck_of rx) hd dd.mapOf ⟨_, H, I.tok _, by rw [← e]; rfl, q⟩
theorem op_ninLk {X : Cx} : OpR X (compareOp .NotIn) (rInLk X.prog X.w true) := by
  intro pins s σ H x y v u Q I rx ry h
  obtain ⟨a, ob, kvs, k, rfl, hH, rfl, q⟩ := h
  cases (show u = Value.ref a from ry)
  obtain ⟨_, _, hd, vs, rel, dd⟩ := lck_of I hH
  have e := (rel.val k).isSome_eq
  exact wpAny_notIn_of (ck_of rx) hd dd.mapOf ⟨_, H, I.tok _, by rw [← e]; rfl, q⟩
def gInK (neg : Bool) : D2 := fun x y S R => ∃ k ob es l, y = .cell k ∧ S.cell k = some (.lck ob es) ∧ keyOf x = some l ∧ R (dB (if neg = true then !(valG es l).isSome else (valG es l).isSome)) S
theorem snd_inK (neg : Bool) : SndR P w K (rInLk P w neg) (gInK neg) := fun B S σ ts H x y dx dy R Q h hd k => by
  obtain ⟨j, ob, es, l, rfl, hc, hl, q⟩ := hd
  obtain ⟨F, α, h⟩ := h
  obtain ⟨a, ks, ev, g1, g2, g3, g4⟩ := h.cellK h.top hc
  subst ev
  refine ⟨a, ob, ks, l, rfl, g3, key_ok h.top2 hl, ?_⟩
  rw [valG_some g4 l]
  exact k _ _ S H q ((h.sub mem2).add vbl).ok
theorem od_inAK {X : Cx} (hu : X.A.units + 65 < cLine) : OpD X (compareOp .In) (gOr (gInA false) (gInK false)) := by
  obtain ⟨r, a1, a2⟩ := (od_inA (X := X) hu).ex
  exact ⟨_, .or a1 op_inLk, snd_rOr a2 (snd_inK false)⟩
theorem od_notinAK {X : Cx} (hu : X.A.units + 65 < cLine) : OpD X (compareOp .NotIn) (gOr (gInA true) (gInK true)) := by
  obtain ⟨r, a1, a2⟩ := (od_notinA (X := X) hu).ex
  exact ⟨_, .or a1 op_ninLk, snd_rOr a2 (snd_inK true)⟩
/-! ### the lock may be taken off wherever the name is read -/
def tUnlO (P : Program) (w : World) (te : TE) : TE := fun σ H Q => te σ H fun v H1 => Q v H1 ∨ ∃ a ob kvs, H1 a = some (LckO P w ob kvs a) ∧ Q v (upd H1 a (DicO P w a kvs))
theorem pe_unlO {X : Cx} {e : Expr} {te : TE} (h : PE X e te) : PE X e (tUnlO X.prog X.w te) := ⟨fun pins s σ H Q I q => by
  refine thn (h.run pins s σ H _ I q) fun u s1 hx => ?_
  obtain ⟨v, H1, I1, r1, q1 | ⟨a, ob, kvs, hH, q1⟩⟩ := hx
  · exact ⟨v, H1, I1, r1, q1⟩
  · obtain ⟨ho, z, hd, vs, rel, dd⟩ := lck_of I1 hH
    exact ⟨v, _, I1.write (x := a) (e := a) (h' := s1.heap) (t' := s1.toks) (by rw [hH]; exact True.intro) (.inl rfl) (fun _ _ _ q => q) ⟨ob, ho⟩ (dz_ok z hd rel dd), r1, q1⟩⟩
def kUnlO (R : DV → DSt → Prop) : DV → DSt → Prop := fun d S1 => R d S1 ∨ ∃ k ob es, S1.cell k = some (.lck ob es) ∧ R d (S1.put k (.dic es))
def dUnlO (de : DTE) : DTE := fun S R => de S (kUnlO R)
theorem DE.unlO {X : Cx} {e : Expr} {de : DTE} (h : DE X e de) : DE X e (dUnlO de) := by
  obtain ⟨t, a1, a2⟩ := h.ex
  refine ⟨_, pe_unlO a1, fun B S σ ts H R Q o hd kk => a2 B S σ ts H _ _ o hd fun v d S1 H1 q o => ?_⟩
  rcases q with q | ⟨k, ob, es, hc, q⟩
  · exact .inl (kk v d S1 H1 q o)
  · obtain ⟨F, α, o⟩ := o
    obtain ⟨a, g1, g2, xs, g3, g4⟩ := o.ce k _ (cell_get hc)
    exact .inr ⟨a, ob, xs, g3, kk v d _ _ q (o.cellPut (o := DicO X.prog X.w a xs) (u := .dic es) g1 g2 ⟨xs, upd_same, g4⟩).ok⟩
end
section
variable {S : DSt} {R : DV → DSt → Prop} {RI : List DY → (DSt → Prop) → DSt → Prop} {de : DTE} {k : Nat} {es : List (Leaf × DV)} {ob : Obj} {x y d : DV} {l : Leaf} {i : Nat}
theorem r_iLck (h : de S (kLck RI)) : diLck de S RI := h
theorem r_kLck (e : S.cell k = some (.dic es)) (q : ∀ ob, RI (es.map fun p => DY.one (.imm (kvD p.1))) (fun S' => S'.cell k = some (.lck ob es)) (S.put k (.lck ob es))) : kLck RI (.cell k) S := ⟨k, es, rfl, .inl ⟨e, q⟩⟩
theorem r_kLcked (e : S.cell k = some (.lck ob es)) (q : RI (es.map fun p => DY.one (.imm (kvD p.1))) (fun S' => S'.cell k = some (.lck ob es)) S) : kLck RI (.cell k) S := ⟨k, es, rfl, .inr ⟨ob, e, q⟩⟩
theorem r_atK (hc : S.cell k = some (.lck ob es)) (hl : keyOf y = some l) (hv : valG es l = some d) (q : R d S) : gOr gAt gAtK (.cell k) y S R := .inr ⟨k, ob, es, l, d, rfl, hc, hl, hv, q⟩
theorem r_atKp (q : gAt x y S R) : gOr gAt gAtK x y S R := .inl q
theorem r_inK {neg : Bool} (hc : S.cell k = some (.lck ob es)) (hl : keyOf x = some l) (q : R (dB (if neg = true then !(valG es l).isSome else (valG es l).isSome)) S) : gOr (gInA neg) (gInK neg) x (.cell k) S R := .inr ⟨k, ob, es, l, rfl, hc, hl, q⟩
theorem r_inKp {neg : Bool} (q : gInA neg x y S R) : gOr (gInA neg) (gInK neg) x y S R := .inl q
theorem r_unlO (h : de S (kUnlO R)) : dUnlO de S R := h
theorem r_stay (q : R d S) : kUnlO R d S := .inl q
theorem r_open (hc : S.cell k = some (.lck ob es)) (q : R d (S.put k (.dic es))) : kUnlO R d S := .inr ⟨k, ob, es, hc, q⟩
end
end DL

set_option Elab.async false
set_option linter.all false
set_option maxRecDepth 100000
set_option autoImplicit false
set_option maxHeartbeats 2000000
namespace DL
open PySem PySem.Spec L2 PyProof.Rows

/-! ## {k: v, ..}, the keys ints, texts, None -/
theorem carriesL {P : Program} {w : World} : ∀ {kvs : List (Leaf × V)} {ws : List (Value × Value)}, VV (kvs.map fun p => (kvV p.1, p.2)) ws → ∃ rs, Carries (cK P w) ws rs ∧ KV kvs rs
  | [], [], _ => ⟨[], trivial, .nil⟩
  | p :: kvs, (a, b) :: ws, .cons h t =>
    let ⟨rs, c, q⟩ := carriesL (P := P) (w := w) t
    ⟨(p.1, b) :: rs, ⟨ck_of h.1, rfl, c⟩, .cons ⟨rfl, h.2⟩ q⟩
def tDispL (P : Program) (w : World) (trs : List (TE × TE)) : TE := fun σ H Q => ∀ D, H D = none → tPairs trs σ (upd H D (DicO P w D [])) fun ps H2 =>
  ∃ kvs : List (Leaf × V), H2 D = some (DicO P w D []) ∧ ps = kvs.map (fun p => (kvV p.1, p.2)) ∧ kvs.length ≤ 15 ∧ Q (.ref D) (upd H2 D (DicO P w D (mergeL [] kvs)))
theorem pe_dispL {X : Cx} {pos : Pos} {keys : List (Option Expr)} {values : List Expr} {trs : List (TE × TE)} (h : PPs X pos keys values trs) (hall : keys.all (·.isSome) = true) (hl : keys.length = values.length) (h0 : keys ≠ []) (h15 : keys.length ≤ 15) :
    PE X (.Dict keys values pos) (tDispL X.prog X.w trs) := by
  refine ⟨fun pins s σ H Q I q => ?_⟩
  have nD := I.hok.fresh (Nat.le_refl s.heap.objs.size)
  have I1 : Inv X pins σ (upd H s.heap.objs.size (DicO X.prog X.w s.heap.objs.size [])) { s with heap := s.heap.push { cls := .type "dict", data := .dict #[] }, toks := s.toks } :=
    I.laid (fun b u e => Heap.get?_push_of_some { cls := .type "dict", data := .dict #[] } e) (Nat.le_refl _) (by exact dz_empty (X := X) (H := H) s.heap I.big)
  refine wpAny_Dict_walk (knd := cK X.prog X.w) hall hl h0 h15 (thn (h.run pins _ σ _ _ I1 (q _ nD)) fun ws s2 hx => ?_)
  obtain ⟨ps, H2, I2, rel, kvs, e, rfl, lk, q2⟩ := hx
  obtain ⟨rs, c, rk⟩ := carriesL (P := X.prog) (w := X.w) rel
  obtain ⟨_, hd, vs0, r0, dd⟩ := dz_of I2 e
  cases r0
  refine ⟨rs, c, dd, fun h' dd' hs => ⟨.ref s.heap.objs.size, _, ?_, rfl, q2⟩⟩
  have hz := mergeL_len kvs []
  exact d_write I2 (by rw [e]; exact True.intro) hs (let ⟨o, _, _, ho, _⟩ := dd'; ⟨o, ho⟩) (dz_ok (by rw [List.length_nil] at hz; rw [sizeLine_eq]; omega) hd (mergeL_kv rk .nil) dd')
/-- the pairs, from the left, over data -/
abbrev DTP := DSt → (List (Leaf × DV) → DSt → Prop) → Prop
def dPairs : List (DTE × DTE) → DTP
  | [] => fun S R => R [] S
  | (dk, dv) :: r => fun S R => dk S fun y S1 => dv S1 fun d S2 => ∃ l, keyOf y = some l ∧ dPairs r S2 fun es S3 => R ((l, d) :: es) S3
structure DPs (X : Cx) (pos : Pos) (keys : List (Option Expr)) (values : List Expr) (drs : List (DTE × DTE)) : Prop where
  ex : ∃ trs : List (TE × TE), PPs X pos keys values trs ∧ ∀ (B : Bs) (S : DSt) (σ : L2.St) (ts : List (V × DV)) (H : Hp) (R : List (Leaf × DV) → DSt → Prop) (Q : List (V × V) → Hp → Prop), StOk X.prog X.w X.K B S σ ts H → dPairs drs S R →
    (∀ kvs es S' H', kvs.map (·.1) = es.map (·.1) → R es S' → StOk X.prog X.w X.K B S' σ (DcL kvs es ++ ts) H' → Q (kvs.map fun p => (kvV p.1, p.2)) H') → tPairs trs σ H Q
section
variable {X : Cx} {pos : Pos} {k v : Expr} {ks : List (Option Expr)} {vs : List Expr} {dk dv : DTE} {drs : List (DTE × DTE)}
theorem dps_nil : DPs X pos [] [] [] := ⟨[], pps_nil, fun B S σ ts H R Q o hd kk => kk [] [] S H rfl hd o⟩
theorem dps_cons (hk : DE X k dk) (hv : DE X v dv) (hr : DPs X pos ks vs drs) : DPs X pos (some k :: ks) (v :: vs) ((dk, dv) :: drs) := by
  obtain ⟨t, a1, a2⟩ := hk.ex
  obtain ⟨u, b1, b2⟩ := hv.ex
  obtain ⟨trs, c1, c2⟩ := hr.ex
  refine ⟨(t, u) :: trs, pps_cons a1 b1 c1, fun B S σ ts H R Q o hd kk => ?_⟩
  refine a2 B S σ ts H _ _ o hd fun x dx S1 H1 q1 o1 => b2 B S1 σ _ H1 _ _ o1 q1 fun y dy S2 H2 q2 o2 => ?_
  obtain ⟨l, el, q2⟩ := q2
  obtain ⟨F2, α2, o2⟩ := o2
  have ex : x = kvV l := key_ok o2.top2 el
  subst ex
  refine c2 B S2 σ _ H2 _ _ o2.ok q2 fun kvs es S3 H3 e3 q3 o3 => kk ((l, y) :: kvs) ((l, dy) :: es) S3 H3 (by simp [e3]) q3 (o3.sub fun p hp => ?_)
  rcases List.mem_cons.mp (show p ∈ (y, dy) :: (DcL kvs es ++ ts) from hp) with e | hp
  · subst e; exact List.mem_append_right _ List.mem_cons_self
  · rcases List.mem_append.mp hp with hp | hp
    · exact List.mem_append_left _ hp
    · exact List.mem_append_right _ (List.mem_cons_of_mem _ (List.mem_cons_of_mem _ hp))
def dDisp (drs : List (DTE × DTE)) : DTE := fun S R => dPairs drs S fun es S1 => es.length ≤ 15 ∧ R (.cell S1.μ.length) (S1.new (.dic (mergeG [] es)))
theorem de_disp {keys : List (Option Expr)} {values : List Expr} (h : DPs X pos keys values drs) (hall : keys.all (·.isSome) = true := by rfl) (hl : keys.length = values.length := by rfl) (h0 : keys ≠ [] := by exact fun z => nomatch z) (h15 : keys.length ≤ 15 := by decide) :
    DE X (.Dict keys values pos) (dDisp drs) := by
  obtain ⟨trs, c1, c2⟩ := h.ex
  refine ⟨_, pe_dispL c1 hall hl h0 h15, fun B S σ ts H R Q o hd kk => ?_⟩
  obtain ⟨F, α, o⟩ := o
  intro D hD
  have hα : D ∉ α := fun q => o.an D q hD
  have hF := o.freeF hD
  have o1 := o.free (o := DicO X.prog X.w D []) hα hF (o.freshB hD)
  have b1 := o1.base
  refine c2 _ S σ ts _ _ _ b1.ok hd fun kvs es S2 H2 ek q2 o2 => ?_
  obtain ⟨F2, α2, o2⟩ := o2
  obtain ⟨d1, d2, d3⟩ := o2.bc D _ upd_same hF hα
  have hp : Paired (KVOk X.prog X.w X.K F2 α2) kvs es := dcL_paired ek fun p hp => o2.tm p (List.mem_append_left _ hp)
  have o3 := (o1.rebase o2).sub fun p hp => List.mem_append_right (DcL kvs es) hp
  refine ⟨kvs, d1, rfl, by rw [Paired.length hp]; exact q2.1, ?_⟩
  have o4 := o3.free (o := DicO X.prog X.w D (mergeL [] kvs)) d3 d2 (o.freshB hD)
  have o5 := o4.adopt (o := .dic (mergeG [] es)) d3 d2 (by rw [upd_same]; exact fun z => by cases z) (o.freshB hD) ⟨mergeL [] kvs, upd_same, paired_up (fun _ _ q => ⟨q.1, q.2.up (Ex.refl _)⟩) (mergeG_ok hp .nil)⟩
  exact kk _ _ _ _ q2.2 (o5.add (d := .cell S2.μ.length) ⟨D, by rw [← o4.al, List.getElem?_append_right (Nat.le_refl _), Nat.sub_self]; rfl, rfl⟩).ok
end
/-! ## d == e, d != e for dicts whose values are data -/
def dictEq (es fs : List (Leaf × PyData)) : Bool := es.length == fs.length && es.all fun p => match valG fs p.1 with
  | some d => PyData.eqv p.2 d
  | none => false
abbrev Vd (K : PySem.W.Frag) (H : Hp) : List (Leaf × V) → List (Leaf × PyData) → Prop := Paired fun p q => p.1 = q.1 ∧ Dp K H p.2 q.2 ∧ SeqAt.shaped q.2 = true
theorem vd_get {K : PySem.W.Frag} {H : Hp} {l : Leaf} : ∀ {ks : List (Leaf × V)} {es : List (Leaf × PyData)}, Vd K H ks es → (valG es l = none ∧ valV ks l = none) ∨ ∃ v d, valG es l = some d ∧ valV ks l = some v ∧ Dp K H v d ∧ SeqAt.shaped d = true
  | _, _, .nil => .inl ⟨rfl, rfl⟩
  | (k, v) :: ks, (k', d) :: es, .cons ⟨e, h1, h2⟩ t => by
    have e : k = k' := e
    subst e
    unfold valG valV
    rw [List.find?_cons, List.find?_cons]
    by_cases c : k = l
    · subst c
      exact .inr ⟨v, d, by simp, by simp, h1, h2⟩
    · rw [decide_eq_false (show ¬ (k, d).1 = l from c)]
      exact vd_get t
section
variable {X : Cx} {pins : List (Addr × Obj)} {σ : L2.St} {H : Hp} {s : Shared}
theorem vd_hits (I : Inv X pins σ H s) (hu : X.A.units + 65 < cLine) {ls : List (Leaf × V)} {fs : List (Leaf × PyData)} {vb : List (Leaf × Value)} (h2 : Vd X.K H ls fs) (rb : KV ls vb) :
    ∀ {ks : List (Leaf × V)} {es : List (Leaf × PyData)} {va : List (Leaf × Value)}, Vd X.K H ks es → KV ks va → PySem.W.KeqHits X.A.in1 s vb va (es.all fun p => match valG fs p.1 with | some d => PyData.eqv p.2 d | none => false)
  | _, _, _, .nil, r => by cases r; exact .nil
  | (k, v) :: ks, (k', d) :: es, va, .cons ⟨e, h1, hs⟩ t, r => by
    have e : k = k' := e
    subst e
    cases r with
    | @cons _ q _ qs r1 r2 =>
      obtain ⟨kk, u⟩ := q
      obtain ⟨e1, r1⟩ := r1
      have e1 : k = kk := e1
      subst e1
      rw [List.all_cons]
      dsimp only
      rcases vd_get (l := k) h2 with ⟨g1, g2⟩ | ⟨z, dz, g1, g2, g3, g4⟩
      · rw [g1]
        have hn : valueAt vb k = none := by
          have := (rb.val k).isSome_eq
          rw [g2] at this
          cases q : valueAt vb k with
          | none => rfl
          | some _ => rw [q] at this; cases this
        exact .miss hn
      · rw [g1]
        obtain ⟨y, hy, ry⟩ := RelO.some_of (v := z) (o := valueAt vb k) (by rw [← g2]; exact rb.val k)
        obtain ⟨as, ra⟩ := Dp.reads I d v u h1 r1
        obtain ⟨bs, rb'⟩ := Dp.reads I dz z y g3 ry
        exact .hit hy (PySem.W.keq_at ra rb' hs g4 (by show X.A.units + 1 + 64 < cLine; omega)) (vd_hits I hu h2 rb t r2)
end
def rDEqv (P : Program) (w : World) (K : PySem.W.Frag) (neg : Bool) : R2 := fun x y H Q => ∃ a b ks ls es fs, x = .ref a ∧ y = .ref b ∧ H a = some (DicO P w a ks) ∧ H b = some (DicO P w b ls) ∧ Vd K H ks es ∧ Vd K H ls fs ∧ Q (.bl (if neg = true then !dictEq es fs else dictEq es fs)) H
section
variable {X : Cx}
theorem op_eqvD (hu : X.A.units + 65 < cLine) : OpR X (compareOp .Eq) (rDEqv X.prog X.w X.K false) := by
  intro pins s σ H x y v u Q I rx ry h
  obtain ⟨a, b, ks, ls, es, fs, rfl, rfl, ha, hb, h1, h2, q⟩ := h
  cases (show v = Value.ref a from rx)
  cases (show u = Value.ref b from ry)
  obtain ⟨_, na, va, ra, da⟩ := dz_of I ha
  obtain ⟨_, nb, vb, rb, db⟩ := dz_of I hb
  refine PySem.W.keq_eq (knd := cK X.prog X.w) na nb da db (by omega) (fun _ => vd_hits I hu h2 rb h1 ra) ?_
  rw [← Paired.length ra, ← Paired.length rb, Paired.length h1, Paired.length h2]
  exact ⟨.bl _, H, I, rfl, q⟩
theorem op_nevD (hu : X.A.units + 65 < cLine) : OpR X (compareOp .NotEq) (rDEqv X.prog X.w X.K true) := by
  intro pins s σ H x y v u Q I rx ry h
  obtain ⟨a, b, ks, ls, es, fs, rfl, rfl, ha, hb, h1, h2, q⟩ := h
  cases (show v = Value.ref a from rx)
  cases (show u = Value.ref b from ry)
  obtain ⟨_, na, va, ra, da⟩ := dz_of I ha
  obtain ⟨_, nb, vb, rb, db⟩ := dz_of I hb
  refine PySem.W.keq_ne (knd := cK X.prog X.w) na nb da db (by omega) (fun _ => vd_hits I hu h2 rb h1 ra) ?_
  rw [← Paired.length ra, ← Paired.length rb, Paired.length h1, Paired.length h2]
  exact ⟨.bl _, H, I, rfl, q⟩
end
/-- the values of a dict in a cell, as data -/
def datK (S : DSt) : List (Leaf × DV) → Option (List (Leaf × PyData))
  | [] => some []
  | (l, d) :: r => match S.dat d, datK S r with
    | some p, some ps => if SeqAt.shaped p = true then some ((l, p) :: ps) else none
    | _, _ => none
def gEqvD (neg : Bool) : D2 := fun x y S R => ∃ es' fs' es fs, S.dict x = some es' ∧ S.dict y = some fs' ∧ datK S es' = some es ∧ datK S fs' = some fs ∧ R (dB (if neg = true then !dictEq es fs else dictEq es fs)) S
section
variable {P : Program} {w : World} {K : PySem.W.Frag} {B : Bs} {S : DSt} {σ : L2.St} {ts : List (V × DV)} {H F : Hp} {α : List Addr}
theorem datK_ok (h : StAt P w K B S σ ts H F α) : ∀ {ks : List (Leaf × V)} {es' : List (Leaf × DV)} {es : List (Leaf × PyData)}, Paired (KVOk P w K F α) ks es' → datK S es' = some es → Vd K H ks es
  | [], [], _, _, e => by cases e; exact .nil
  | (k, v) :: ks, (l, d) :: es', es, .cons h1 t, e => by
    have e : (match S.dat d, datK S es' with | some p, some ps => if SeqAt.shaped p = true then some ((l, p) :: ps) else none | _, _ => none) = some es := e
    split at e
    · rename_i p ps e1 e2
      split at e
      · rename_i hs
        cases e
        exact .cons ⟨h1.1, h.dat h1.2 e1 hs, hs⟩ (datK_ok h t e2)
      · cases e
    · cases e
theorem snd_eqvD (neg : Bool) : SndR P w K (rDEqv P w K neg) (gEqvD neg) := fun B S σ ts H x y dx dy R Q h hd k => by
  obtain ⟨es', fs', es, fs, e1, e2, d1, d2, q⟩ := hd
  obtain ⟨F, α, h⟩ := h
  obtain ⟨a, ks, rfl, hH, p1⟩ := h.dict h.top2 e1
  obtain ⟨b, ls, rfl, hH2, p2⟩ := h.dict h.top e2
  exact ⟨a, b, ks, ls, es, fs, rfl, rfl, hH, hH2, datK_ok h p1 d1, datK_ok h p2 d2, k _ _ S H q ((h.sub mem2).add vbl).ok⟩
end
section
variable {X : Cx}
theorem od_eqXE (hu : X.A.units + 65 < cLine) : OpD X (compareOp .Eq) (gOr gEqX (gEqvD false)) := by
  obtain ⟨r, a1, a2⟩ := (od_eqX (X := X) (by omega)).ex
  exact ⟨_, .or a1 (op_eqvD hu), snd_rOr a2 (snd_eqvD false)⟩
theorem od_neXE (hu : X.A.units + 65 < cLine) : OpD X (compareOp .NotEq) (gOr gNeX (gEqvD true)) := by
  obtain ⟨r, a1, a2⟩ := (od_neX (X := X) (by omega)).ex
  exact ⟨_, .or a1 (op_nevD hu), snd_rOr a2 (snd_eqvD true)⟩
end
section
variable {S : DSt} {R : DV → DSt → Prop} {x y : DV} {drs : List (DTE × DTE)} {dk dv : DTE} {RP : List (Leaf × DV) → DSt → Prop}
theorem r_eqXp (q : gEqX x y S R) : gOr gEqX (gEqvD false) x y S R := .inl q
theorem r_neXEp (q : gNeX x y S R) : gOr gNeX (gEqvD true) x y S R := .inl q
theorem r_eqvD {es' fs' : List (Leaf × DV)} {es fs : List (Leaf × PyData)} (e1 : S.dict x = some es') (e2 : S.dict y = some fs') (d1 : datK S es' = some es) (d2 : datK S fs' = some fs) (q : R (dB (dictEq es fs)) S) : gOr gEqX (gEqvD false) x y S R := .inr ⟨es', fs', es, fs, e1, e2, d1, d2, q⟩
theorem r_nevD {es' fs' : List (Leaf × DV)} {es fs : List (Leaf × PyData)} (e1 : S.dict x = some es') (e2 : S.dict y = some fs') (d1 : datK S es' = some es) (d2 : datK S fs' = some fs) (q : R (dB (!dictEq es fs)) S) : gOr gNeX (gEqvD true) x y S R := .inr ⟨es', fs', es, fs, e1, e2, d1, d2, q⟩
def kDisp (R : DV → DSt → Prop) : List (Leaf × DV) → DSt → Prop := fun es S1 => es.length ≤ 15 ∧ R (.cell S1.μ.length) (S1.new (.dic (mergeG [] es)))
theorem r_disp (h : dPairs drs S (kDisp R)) : dDisp drs S R := h
theorem r_pairs0 (h : RP [] S) : dPairs [] S RP := h
def kPairK (dv : DTE) (drs : List (DTE × DTE)) (RP : List (Leaf × DV) → DSt → Prop) : DV → DSt → Prop := fun y S1 => dv S1 fun d S2 => ∃ l, keyOf y = some l ∧ dPairs drs S2 fun es S3 => RP ((l, d) :: es) S3
theorem r_pairs (h : dk S (kPairK dv drs RP)) : dPairs ((dk, dv) :: drs) S RP := h
theorem r_kPairK {l : Leaf} (e : keyOf y = some l) (h : dv S fun d S2 => dPairs drs S2 fun es S3 => RP ((l, d) :: es) S3) (hm : Mono dv) : kPairK dv drs RP y S := hm S _ _ (fun d S2 q => ⟨l, e, q⟩) h
theorem r_kDisp {es : List (Leaf × DV)} (h : es.length ≤ 15) (q : R (.cell S.μ.length) (S.new (.dic (mergeG [] es)))) : kDisp R es S := ⟨h, q⟩
end
/-! ## repr of a dict whose values have no dict in them -/
def CanShowD (ps : List (PyData × PyData)) : Prop := (PyData.dict ps).showable = true ∧ wtD (.dict ps) ≤ 10000000 ∧ (PyData.dict ps).depth ≤ 50 ∧ PyData.hasDictAll (ps.map (·.1)) = false ∧ PyData.hasDictAll (ps.map (·.2)) = false
theorem repr_dict0 {P : Program} {w : World} {A : Around} {E : Value → Shared → Prop} {s : Shared} {Q : Value → Shared → Prop} {a : Addr} {ps : List (PyData × PyData)} {as : List Addr} (ra : Reads s.heap (.ref a) (.dict ps) as) (hne : (a == sysModules) = false) (hc : CanShowD ps)
    (hg : A.guards = some []) (hu : A.units + 60 < cLine) (hQ : ∀ h' u tk, (∀ b o, s.heap.get? b = some o → h'.get? b = some o) → Q (.str (PyData.dict ps).shown u) { s with heap := h', toks := tk }) : wpAny (model P w) A (call (.builtin "repr") [.ref a]) Q E s := by
  obtain ⟨c1, c2, c3, c4, c5⟩ := hc
  have hl := shown_le (.dict ps)
  have fits : (dictText (PyData.shownKv ps)).length ≤ sizeLine := by
    rw [show dictText (PyData.shownKv ps) = (PyData.dict ps).shown by simp only [PyData.shown], sizeLine_eq]
    omega
  have no : ∀ {ds : List PyData} {xs : List Addr}, PyData.hasDictAll ds = false → PyData.hasDictAll ds = true → sysModules ∉ xs := fun h1 h2 => by rw [h1] at h2; cases h2
  cases id ra with
  | dict r1 r2 r3 r4 r5 =>
    rename_i o es n as₁ bs₁
    obtain ⟨y1, y2⟩ := PyData.showableKv_split ps (by simpa [PyData.showable] using c1)
    obtain ⟨b1, z1, k1⟩ := ReprAllK.of_readsAll (prog := P) (w := w) r4 y1 (no c4) fun t ht =>
      let ⟨p, hp, hl⟩ := PyData.shownKv_key_le ps t ht; Nat.le_trans hl (Nat.le_trans (dictText_mem_le hp) fits)
    obtain ⟨b2, z2, k2⟩ := ReprAllK.of_readsAll (prog := P) (w := w) r5 y2 (no c5) fun t ht =>
      let ⟨p, hp, hl⟩ := PyData.shownKv_val_le ps t ht; Nat.le_trans hl (Nat.le_trans (dictText_mem_le hp) fits)
    have nin : a ∉ b1 ++ b2 := not_mem_of_deeper ra (by simp only [PyData.depth]; omega) ((z1.mono (PyData.depthAll_keys_le ps)).append (z2.mono (PyData.depthAll_vals_le ps)))
    have dp : (PyData.dict ps).depth = PyData.depthKv ps + 1 := by simp only [PyData.depth, Nat.add_comm]
    refine call_repr_slot (by omega) ⟨o, r1, r2⟩ PySem.F.slot_dict_repr ?_
    refine call_dict_reprK r1 r2 r3 hne nin (ReprEntriesK.of_two es.toList _ _ (k1.more_le (fun b hb => List.mem_append_left _ hb) (PyData.depthAll_keys_le ps)) (k2.more_le (fun b hb => List.mem_append_right _ hb) (PyData.depthAll_vals_le ps)))
      (g := []) hg (fun b _ => Clear.nil b) (by show A.units + 1 + _ < cLine; omega) (fun _ _ e => e) (fun h' u tk hk => ⟨_, u, rfl, ?_⟩) (by rw [← PyData.shownKv_eq]; exact fits)
    have := hQ h' u tk hk
    simpa only [PyData.shown, PyData.shownKv_eq] using this
def rReprD (P : Program) (w : World) (K : PySem.W.Frag) : List V → Hp → VK → Prop := fun vs H Q => ∃ (a : Addr) (ps : List (PyData × PyData)) (F : Hp), vs = [.ref a] ∧ Ex F H ∧ Rp P w K F (.ref a) (.dict ps) ∧ CanShowD ps ∧ Q (.str (PyData.dict ps).shown) H
theorem call_reprDD {X : Cx} (hg : X.A.guards = some []) (hu : X.A.units + 60 < cLine) : CallR X (.builtin "repr") (rReprD X.prog X.w X.K) := by
  intro pins s σ H vs us Q I r h
  obtain ⟨a, ps, F, rfl, e, hr, hc, q⟩ := h
  rw [Vals.ref1 r]
  obtain ⟨as, ra⟩ := reads_of I e hr (u := .ref a) rfl
  cases hr with
  | dic h1 h2 h3 =>
    obtain ⟨z, hs, _⟩ := dz_of I (e _ _ h1)
    exact repr_dict0 ra hs hc hg hu fun h' u tk hk => ⟨.str _, H, I.kept hk, ⟨_, rfl⟩, q⟩
def gReprY : DC1 := fun ds S R => gReprX ds S R ∨ (match ds with
  | [d] => ∃ fz ps, FzD S fz d (.dict ps) ∧ CanShowD ps ∧ R (dS (PyData.dict ps).shown) S
  | _ => False)
theorem cd_reprY {X : Cx} (hg : X.A.guards = some []) (hu : X.A.units + 60 < cLine) : CallD X (.builtin "repr") gReprY := by
  obtain ⟨r, c1, c2⟩ := (cd_reprX hg hu).ex
  refine ⟨_, .or c1 (call_reprDD hg hu), fun B S σ ts H xs ds R Q hl h hd k => ?_⟩
  rcases hd with hd | hd
  · exact .inl (c2 B S σ ts H xs ds R Q hl h hd k)
  · match ds, hd with
    | [d], ⟨fz, ps, hf, hc, q⟩ =>
      match xs, hl with
      | [x], _ =>
        obtain ⟨F, α, h⟩ := h
        have hr := fz_rp h hf (h.tm (x, d) (by simp))
        cases id hr with
        | dic h1 h2 h3 =>
          refine .inr ⟨_, ps, fixF F H α fz, rfl, fun b o e => ?_, hr, hc, k _ _ S H q ((h.sub memA).add vstr).ok⟩
          unfold fixF at e
          split at e
          · exact e
          · exact h.fh b o e
section
variable {S : DSt} {R : DV → DSt → Prop}
theorem r_reprY {ds : List DV} (q : gReprX ds S R) : gReprY ds S R := .inl q
theorem r_reprYD {d : DV} {ps : List (PyData × PyData)} (fz : List Nat) (hf : FzD S fz d (.dict ps)) (hc : CanShowD ps) (q : R (dS (PyData.dict ps).shown) S) : gReprY [d] S R := .inr ⟨fz, ps, hf, hc, q⟩
end
end DL

set_option Elab.async false
set_option linter.all false
set_option maxRecDepth 100000
set_option autoImplicit false
set_option maxHeartbeats 2000000
namespace DL
open PySem PySem.Spec L2 PyProof.Rows

/-! ## the scope of a comprehension that stands as a statement's value -/
def topEx : Stmt → Expr
  | .Return (some e) _ => e
  | .Assign _ e _ => e
  | .Expr e _ => e
  | _ => .Constant .none 0 ⟨0, 0, 0, 0⟩
def compSc : Expr → Scope
  | .ListComp _ _ sc _ => sc
  | .DictComp _ _ _ sc _ => sc
  | .SetComp _ _ sc _ => sc
  | .GeneratorExp _ _ sc _ => sc
  | _ => { kind := .function, names := [], isGenerator := false, isCoroutine := false, more := [] }
theorem BlkOk.relab {N : List Str} {sc scope : Scope} {own : List (Str × Nat)} {env : Env} (h : BlkOk N sc scope own) : BlkOk N (relabel sc env) scope own := { h with
  free := fun y hy e => by
    have key : ∀ (names : List (Str × NameKind)) (f : Str × NameKind → Str × NameKind), (∀ p, (f p).1 = p.1 ∧ (p.2 = .cell → (f p).2 = .cell) ∧ (p.2 = .free → (f p).2 = .cell ∨ (f p).2 = .free)) →
        (names.lookup y.1 = some .cell ∨ names.lookup y.1 = some .free) → (names.map f).lookup y.1 = some .cell ∨ (names.map f).lookup y.1 = some .free := by
      intro names f hf
      induction names with
      | nil => intro z; simp at z
      | cons p r ih =>
        obtain ⟨n, k⟩ := p
        obtain ⟨f1, f2, f3⟩ := hf (n, k)
        rw [List.map_cons, List.lookup_cons, List.lookup_cons, f1]
        dsimp only at f1 f2 f3 ⊢
        split
        · intro z
          rcases z with z | z
          · cases z; exact .inl (by rw [f2 rfl])
          · cases z
            rcases f3 rfl with q | q
            · exact .inl (by rw [q])
            · exact .inr (by rw [q])
        · exact ih
    refine key sc.names _ (fun p => ⟨?_, fun e => ?_, fun e => ?_⟩) (h.free y hy e)
    · dsimp only; split <;> rfl
    · dsimp only; rw [e]; simp
    · dsimp only; split
      · exact .inl rfl
      · exact .inr e }
/-! ## a dict of lists that comes from a call -/
/-- the cells js hold the rows -/
def RowsAt (μ : List (Option DO)) (js : List Nat) (rows : List (List Int)) : Prop := js.length = rows.length ∧ js.Nodup ∧ ∀ (i j : Nat) (r : List Int), js[i]? = some j → rows[i]? = some r → μ[j]? = some (some (.lst (r.map dI)))
/-- cell k is a dict from ls to them -/
def DicAt (μ : List (Option DO)) (k : Nat) (js : List Nat) (ls : List Leaf) (rows : List (List Int)) : Prop := ls.length = rows.length ∧ RowsAt μ js rows ∧ k ∉ js ∧ μ[k]? = some (some (.dic (ls.zip (js.map DV.cell))))
theorem rnDs_ints (m : List (Nat × Nat)) : ∀ r : List Int, rnDs m (r.map dI) = some (r.map dI)
  | [] => rfl
  | x :: r => by
    show (match rnD m (dI x), rnDs m (r.map dI) with | some d', some ds' => some (d' :: ds') | _, _ => none) = _
    rw [rnDs_ints m r]; rfl
theorem plant_put {μ' : List (Option DO)} (k : Nat) : ∀ (js : List Nat) (m : List (Nat × Nat)) (μ : List (Option DO)), plant μ' (js ++ [k]) m μ = match plant μ' js m μ with
    | some (m2, μ2) => plant μ' [k] m2 μ2
    | none => none
  | [], _, _ => rfl
  | j :: js, m, μ => by
    show plant μ' (j :: (js ++ [k])) m μ = _
    unfold plant
    split
    · split
      · exact plant_put k js _ _
      · rfl
    · rfl
theorem plant_ints {μ' : List (Option DO)} : ∀ {js : List Nat} {rows : List (List Int)} (m : List (Nat × Nat)) (μ : List (Option DO)), RowsAt μ' js rows →
    ∃ m2, plant μ' js m μ = some (m2, μ ++ rows.map fun r => some (.lst (r.map dI))) ∧ (∀ i j : Nat, js[i]? = some j → m2.lookup j = some (μ.length + i)) ∧ ∀ j, j ∉ js → m2.lookup j = m.lookup j
  | [], [], m, μ, _ => ⟨m, by simp [plant], (fun i j e => by simp at e), fun _ _ => rfl⟩
  | [], _ :: _, _, _, h => by have := h.1; simp at this
  | _ :: _, [], _, _, h => by have := h.1; simp at this
  | j :: js, r :: rows, m, μ, ⟨h1, h2, h3⟩ => by
    obtain ⟨n1, n2⟩ := List.nodup_cons.mp h2
    obtain ⟨m2, p1, p2, p3⟩ := plant_ints (js := js) (rows := rows) ((j, μ.length) :: m) (μ ++ [some (.lst (r.map dI))]) ⟨by simpa using h1, n2, fun i j r e1 e2 => h3 (i + 1) j r (by simpa using e1) (by simpa using e2)⟩
    refine ⟨m2, ?_, fun i x e => ?_, fun x hx => ?_⟩
    · unfold plant
      rw [h3 0 j r rfl rfl]
      dsimp only
      rw [show rnO m (.lst (r.map dI)) = some (.lst (r.map dI)) from by show (rnDs m (r.map dI)).map DO.lst = _; rw [rnDs_ints]; rfl]
      dsimp only
      rw [p1]
      simp
    · cases i with
      | zero =>
        simp at e; subst e
        rw [p3 _ n1, lookup_cons, if_pos rfl]; rfl
      | succ i =>
        have := p2 i x (by simpa using e)
        rw [this]; simp; omega
    · rw [p3 _ (fun z => hx (List.mem_cons_of_mem _ z)), lookup_cons, if_neg fun e => hx (by rw [e]; exact List.mem_cons_self)]
theorem rnKs_cells {m : List (Nat × Nat)} : ∀ {ls : List Leaf} {js : List Nat} (n : Nat), ls.length = js.length → (∀ i j : Nat, js[i]? = some j → m.lookup j = some (n + i)) → rnKs m (ls.zip (js.map DV.cell)) = some (ls.zip ((List.range' n js.length).map DV.cell))
  | [], [], _, _, _ => rfl
  | [], _ :: _, _, h, _ => by simp at h
  | _ :: _, [], _, h, _ => by simp at h
  | l :: ls, j :: js, n, h, hm => by
    have e0 := hm 0 j rfl
    have ih := rnKs_cells (m := m) (ls := ls) (js := js) (n + 1) (by simpa using h) fun i x e => by
      have := hm (i + 1) x (by simpa using e)
      rw [this]; congr 1; omega
    rw [List.map_cons, List.zip_cons_cons, List.length_cons, List.range'_succ, List.map_cons, List.zip_cons_cons]
    show (match rnD m (.cell j), rnKs m (ls.zip (js.map DV.cell)) with | some d', some ps' => some ((l, d') :: ps') | _, _ => none) = _
    rw [ih, show rnD m (.cell j) = some (.cell n) from by show (m.lookup j).map DV.cell = _; rw [e0]; rfl]
/-- what a call gives back, cells within -/
def retN (R : DV → DSt → Prop) (S1 : DSt) (ks : List Nat) : DV → List (Option DO) → Prop := fun d μ' => ∃ js, js.Nodup ∧ (∀ j ∈ js, ks.length ≤ j) ∧ match plant μ' js (handed ks) (backs S1.μ ks μ') with
  | some (m, μ2) => match rnD m d with
    | some d' => R d' ⟨S1.ρ, μ2⟩
    | none => False
  | none => False
section
variable {S : DSt} {R : DV → DSt → Prop} {dsp : DSp} {es : List DV}
theorem r_callN (hb : bareP es = true) (k : dsp es [] (retN R S [])) : ∃ ks, kCallT dsp R (es ++ []) S ks := ⟨[], by
  unfold kCallT
  rw [List.append_nil, ren_bare hb]
  exact ⟨List.nodup_nil, (fun _ h => nomatch h), k⟩⟩
theorem r_retI' {p : PyData} {μ' : List (Option DO)} (q : R (.imm p) S) : retN R S [] (.imm p) μ' := ⟨[], List.nodup_nil, (fun _ h => nomatch h), q⟩
/-- a dict of rows -/
theorem r_retD {μ' : List (Option DO)} {k : Nat} {js : List Nat} {ls : List Leaf} {rows : List (List Int)} (h : DicAt μ' k js ls rows)
    (q : R (.cell (S.μ.length + rows.length)) ⟨S.ρ, S.μ ++ rows.map (fun r => some (.lst (r.map dI))) ++ [some (.dic (ls.zip ((List.range' S.μ.length rows.length).map DV.cell)))]⟩) : retN R S [] (.cell k) μ' := by
  obtain ⟨h1, h2, h3, h4⟩ := h
  obtain ⟨m2, p1, p2, p3⟩ := plant_ints (handed []) S.μ h2
  refine ⟨js ++ [k], List.nodup_append.mpr ⟨h2.2.1, by simp, fun a ha b hb e => h3 (by rw [← List.mem_singleton.mp hb, ← e]; exact ha)⟩, fun _ _ => Nat.zero_le _, ?_⟩
  show match plant μ' (js ++ [k]) (handed []) S.μ with | some (m, μ2) => _ | none => False
  rw [plant_put, p1]
  dsimp only
  unfold plant
  rw [h4]
  dsimp only
  rw [show rnO m2 (.dic (ls.zip (js.map DV.cell))) = some (.dic (ls.zip ((List.range' S.μ.length js.length).map DV.cell))) from by
    show (rnKs m2 _).map DO.dic = _
    rw [rnKs_cells S.μ.length (by rw [h1, h2.1]) p2]; rfl]
  dsimp only
  unfold plant
  dsimp only
  rw [show rnD ((k, (S.μ ++ rows.map fun r => some (DO.lst (r.map dI))).length) :: m2) (.cell k) = some (.cell (S.μ.length + rows.length)) from by
    show (List.lookup k _).map DV.cell = _
    rw [lookup_cons, if_pos rfl]; simp]
  dsimp only
  rw [h2.1]
  exact q
end
end DL

set_option Elab.async false
set_option linter.all false
set_option maxRecDepth 100000
set_option autoImplicit false
set_option maxHeartbeats 2000000
namespace DL
open PySem PySem.Spec L2 PyProof.Rows

/-! ## rows in cells, as they grow -/
section
variable {μ : List (Option DO)} {js : List Nat} {rows : List (List Int)} {k : Nat} {ls : List Leaf}
theorem RowsAt.lt (h : RowsAt μ js rows) {j : Nat} (hj : j ∈ js) : j < μ.length := by
  obtain ⟨i, hi, e⟩ := List.mem_iff_getElem.mp hj
  have hr : i < rows.length := by rw [← h.1]; exact hi
  exact (List.getElem?_eq_some_iff.mp (h.2.2 i j rows[i] (by rw [List.getElem?_eq_getElem hi, e]) (List.getElem?_eq_getElem hr))).1
theorem RowsAt.app (h : RowsAt μ js rows) (μ2 : List (Option DO)) : RowsAt (μ ++ μ2) js rows :=
  ⟨h.1, h.2.1, fun i j r e1 e2 => by rw [List.getElem?_append_left (h.lt (List.mem_of_getElem? e1))]; exact h.2.2 i j r e1 e2⟩
theorem RowsAt.set_ne (h : RowsAt μ js rows) {n : Nat} {o : Option DO} (hn : n ∉ js) : RowsAt (μ.set n o) js rows :=
  ⟨h.1, h.2.1, fun i j r e1 e2 => by rw [List.getElem?_set_ne (show n ≠ j from fun e => hn (by rw [e]; exact List.mem_of_getElem? e1))]; exact h.2.2 i j r e1 e2⟩
theorem RowsAt.set_at (h : RowsAt μ js rows) {i j : Nat} {r : List Int} (hj : js[i]? = some j) : RowsAt (μ.set j (some (.lst (r.map dI)))) js (rows.set i r) := by
  have hl := h.lt (List.mem_of_getElem? hj)
  refine ⟨by rw [List.length_set]; exact h.1, h.2.1, fun i' j' r' e1 e2 => ?_⟩
  by_cases c : i = i'
  · subst c
    cases hj.symm.trans e1
    rw [List.getElem?_set_self hl]
    rw [List.getElem?_set_self (by rw [← h.1]; exact (List.getElem?_eq_some_iff.mp hj).1)] at e2
    cases e2; rfl
  · rw [List.getElem?_set_ne c] at e2
    have : j ≠ j' := fun e => c ((List.getElem_inj h.2.1).mp ((List.getElem?_eq_some_iff.mp hj).2.trans (e.trans (List.getElem?_eq_some_iff.mp e1).2.symm)))
    rw [List.getElem?_set_ne this]
    exact h.2.2 i' j' r' e1 e2
/-- one more row, in a new cell -/
theorem RowsAt.snoc (h : RowsAt μ js rows) {r : List Int} (μ2 : List (Option DO)) : RowsAt (μ ++ some (.lst (r.map dI)) :: μ2) (js ++ [μ.length]) (rows ++ [r]) := by
  refine ⟨by simp [h.1], List.nodup_append.mpr ⟨h.2.1, by simp, fun a ha b hb e => ?_⟩, fun i j r' e1 e2 => ?_⟩
  · have := h.lt ha
    rw [List.mem_singleton] at hb
    omega
  · by_cases c : i < js.length
    · rw [List.getElem?_append_left c] at e1
      rw [List.getElem?_append_left (by rw [← h.1]; exact c)] at e2
      exact (h.app _).2.2 i j r' e1 e2
    · have e : i = js.length := by
        have := (List.getElem?_eq_some_iff.mp e1).1
        simp at this
        omega
      subst e
      rw [List.getElem?_append_right (Nat.le_refl _), Nat.sub_self] at e1
      rw [h.1, List.getElem?_append_right (Nat.le_refl _), Nat.sub_self] at e2
      cases e1
      cases e2
      rw [List.getElem?_append_right (Nat.le_refl _), Nat.sub_self]
      rfl
theorem RowsAt.nil : RowsAt μ [] [] := ⟨rfl, List.nodup_nil, fun i j r e => by simp at e⟩
/-- the rows that a canonical layout holds -/
theorem RowsAt.range (μ μ2 : List (Option DO)) (rows : List (List Int)) : RowsAt (μ ++ rows.map (fun r => some (.lst (r.map dI))) ++ μ2) (List.range' μ.length rows.length) rows := by
  refine ⟨by simp, List.nodup_range', fun i j r e1 e2 => ?_⟩
  have hi := (List.getElem?_eq_some_iff.mp e2).1
  rw [List.getElem?_range' (by simpa using hi)] at e1
  cases e1
  rw [List.getElem?_append_left (by simp; omega), List.getElem?_append_right (by omega), show μ.length + 1 * i - μ.length = i by omega, List.getElem?_map, e2]
  rfl
/-- one entry of the dict -/
theorem valG_zip {D : Type} {l : Leaf} {d : D} {i : Nat} : ∀ {ls : List Leaf} {ds : List D} {i : Nat}, ls.Nodup → ls[i]? = some l → ds[i]? = some d → valG (ls.zip ds) l = some d
  | [], _, _, _, h, _ => by simp at h
  | _ :: _, [], _, _, _, h => by simp at h
  | a :: ls, b :: ds, 0, _, h1, h2 => by
    simp at h1 h2
    subst h1 h2
    simp [valG]
  | a :: ls, b :: ds, i + 1, nd, h1, h2 => by
    rw [List.nodup_cons] at nd
    have h1' : ls[i]? = some l := by simpa using h1
    have ne : ¬ a = l := fun e => nd.1 (e ▸ List.mem_of_getElem? h1')
    have ih := valG_zip (l := l) (i := i) nd.2 h1' (show ds[i]? = some d by simpa using h2)
    unfold valG at ih ⊢
    rw [List.zip_cons_cons, List.find?_cons, decide_eq_false (show ¬ (a, b).1 = l from ne)]
    exact ih
theorem putG_zip {D : Type} {l : Leaf} {d : D} {ls : List Leaf} {ds : List D} (hl : ls.length = ds.length) (h : l ∉ ls) : putG (ls.zip ds) l d = (ls ++ [l]).zip (ds ++ [d]) := by
  unfold putG
  rw [if_neg]
  · rw [List.zip_append hl]; rfl
  · simp only [List.any_eq_true, decide_eq_true_eq, not_exists, not_and]
    exact fun p hp e => h (e ▸ (List.of_mem_zip hp).1)
/-- what the entries lead to, as data -/
theorem datK_rows {S : DSt} {μ : List (Option DO)} (hμ : S.μ = μ) : ∀ {ls : List Leaf} {js : List Nat} {rows : List (List Int)}, ls.length = rows.length → RowsAt μ js rows → datK S (ls.zip (js.map DV.cell)) = some (ls.zip (rows.map fun r => PyData.list (r.map PyData.int)))
  | [], _, _, _, _ => by simp [datK]
  | l :: ls, [], [], h, _ => by simp at h
  | l :: ls, [], _ :: _, _, h => by have := h.1; simp at this
  | l :: ls, _ :: _, [], h, _ => by simp at h
  | l :: ls, j :: js, r :: rows, h, ⟨h1, h2, h3⟩ => by
    have ih := datK_rows (S := S) hμ (ls := ls) (js := js) (rows := rows) (by simpa using h) ⟨by simpa using h1, (List.nodup_cons.mp h2).2, fun i j r e1 e2 => h3 (i + 1) j r (by simpa using e1) (by simpa using e2)⟩
    have hc : S.cell j = some (.lst (r.map dI)) := by
      unfold DSt.cell
      rw [hμ, h3 0 j r rfl rfl]; rfl
    show (match S.dat (.cell j), datK S (ls.zip (js.map DV.cell)) with | some p, some ps => if SeqAt.shaped p = true then some ((l, p) :: ps) else none | _, _ => none) = _
    rw [dat_ints hc, ih]
    dsimp only
    rw [if_pos (shaped_ints r)]
    rfl
/-- frozen, all at once -/
theorem fz_rows {S : DSt} {μ : List (Option DO)} (hμ : S.μ = μ) {fz : List Nat} : ∀ {js : List Nat} {rows : List (List Int)}, RowsAt μ js rows → (∀ j ∈ js, j ∈ fz) → FzAll S fz (js.map DV.cell) (rows.map fun r => PyData.list (r.map PyData.int))
  | [], [], _, _ => .nil
  | [], _ :: _, h, _ => by have := h.1; simp at this
  | _ :: _, [], h, _ => by have := h.1; simp at this
  | j :: js, r :: rows, ⟨h1, h2, h3⟩, hf => by
    refine .cons (.lst (hf j List.mem_cons_self) (ds := r.map dI) ?_ ?_) (fz_rows hμ ⟨by simpa using h1, (List.nodup_cons.mp h2).2, fun i j r e1 e2 => h3 (i + 1) j r (by simpa using e1) (by simpa using e2)⟩ fun j hj => hf j (List.mem_cons_of_mem _ hj))
    · unfold DSt.cell
      rw [hμ, h3 0 j r rfl rfl]; rfl
    · rw [show r.map dI = (r.map PyData.int).map DV.imm by simp]
      exact .imm _
/-- a dict of rows as data -/
def dRows (ls : List Leaf) (rows : List (List Int)) : List (PyData × PyData) := (ls.zip rows).map fun p => (kvD p.1, PyData.list (p.2.map PyData.int))
theorem fz_dic {S : DSt} {fz : List Nat} (hl : ls.length = rows.length) (hr : RowsAt S.μ js rows) (hk : S.cell k = some (.dic (ls.zip (js.map DV.cell)))) (h1 : k ∈ fz) (h2 : ∀ j ∈ js, j ∈ fz) : FzD S fz (.cell k) (.dict (dRows ls rows)) := by
  have e1 : (dRows ls rows).map (·.1) = (ls.zip (js.map DV.cell)).map fun p => kvD p.1 := by
    unfold dRows
    rw [List.map_map, show ((fun x : PyData × PyData => x.1) ∘ fun p : Leaf × List Int => (kvD p.1, PyData.list (p.2.map PyData.int))) = kvD ∘ Prod.fst from rfl, ← List.map_map, List.map_fst_zip (by omega),
      show (fun p : Leaf × DV => kvD p.1) = kvD ∘ Prod.fst from rfl, ← List.map_map, List.map_fst_zip (by rw [List.length_map, hr.1]; omega)]
  have e2 : (ls.zip (js.map DV.cell)).map (·.2) = js.map DV.cell := List.map_snd_zip (by rw [List.length_map, hr.1]; omega)
  have e3 : (dRows ls rows).map (·.2) = rows.map fun r => PyData.list (r.map PyData.int) := by
    unfold dRows
    rw [List.map_map, show ((fun x : PyData × PyData => x.2) ∘ fun p : Leaf × List Int => (kvD p.1, PyData.list (p.2.map PyData.int))) = (fun r : List Int => PyData.list (r.map PyData.int)) ∘ Prod.snd from rfl, ← List.map_map, List.map_snd_zip (by omega)]
  refine .dic h1 hk e1 ?_
  rw [e2, e3]
  exact fz_rows rfl hr h2
end
end DL

set_option Elab.async false
set_option linter.all false
set_option maxRecDepth 100000
set_option autoImplicit false
set_option maxHeartbeats 2000000
namespace DL
open PySem PySem.Spec L2 PyProof.Rows

/-! ## t * j for a tuple t: the new tuple is known to be plain -/
theorem rep_small {a b : Nat} (ha : a ≤ 1000) (hb : b ≤ 1000) : b * a ≤ 1000000 := Nat.le_trans (Nat.mul_le_mul hb ha) (by decide)
/-- the raw step: what t * j leaves -/
theorem mul_tup {X : Cx} {s : Shared} {a : Addr} {items : List Value} {j : Int} {t : Tok} {Q : Value → Shared → Prop} (ht : s.heap.IsTuple a items.toArray) (hne : items ≠ []) (j0 : 2 ≤ j) (j1 : j ≤ 1000) (hl : items.length ≤ 1000)
    (q : Q (.ref s.heap.objs.size) { s with heap := s.heap.push (tob (List.replicate j.toNat items).flatten) }) : wpAny (model X.prog X.w) X.A (binaryOp .Mult (.ref a) (.int j t)) Q X.xe s := by
  obtain ⟨⟨c, dd, dt, slots⟩, e1, e2, n, e3⟩ := ht
  dsimp only at e2 e3
  subst e2 e3
  have some0 : items.toArray.isEmpty = false := by cases items <;> first | exact absurd rfl hne | rfl
  have big : (List.replicate j.toNat items).flatten.length ≤ sizeLine := by
    have := rep_small hl (show j.toNat ≤ 1000 by omega)
    rw [PyProof.Rows.lm_len_rep_flat, sizeLine_eq]; omega
  have prod : ((items.toArray.size : Nat) : Int) * j ≤ 1000000 := by
    have := rep_small hl (show j.toNat ≤ 1000 by omega)
    rw [List.size_toArray, Int.mul_comm]
    calc j * (items.length : Int) = ((j.toNat * items.length : Nat) : Int) := by rw [Int.natCast_mul, Int.toNat_of_nonneg (by omega)]
      _ ≤ 1000000 := by omega
  have step := tuple_mulW a items.toArray n dd slots j t (by simp; omega) (by rw [some0]; simp; omega) (by rw [some0]; simp; omega) (by omega) (by unfold Builtin.Tuple.tupleTooMany; rw [sizeLine_eq]; exact decide_eq_false (by omega)) (by rw [size_rep, List.size_toArray]; exact big)
  have look : ({ s with heap := s.heap } : Shared).TypeIs (.ref a) "tuple" := ⟨_, e1, rfl⟩
  refine wpAny_binaryOp_repeat_ref (T := "tuple") (U := "int") (by decide) look (fun z => typeIs_int z j t) noFill_tuple_mul F.fills_int_mul F.slot_int_rmul repeat_tuple F.slot_int_index.lookup ?_
  have early := int_rmul_tuple j t a items.toArray n dd slots
  refine call_meets F.slot_int_rmul (typeIs_int s j t) F.entry_int_rmul (F.args_int_rmul_2 _ _) early ⟨e1, rfl, look, ?_⟩
  refine call_meets F.slot_tuple_mul look F.entry_tuple_mul (F.args_tuple_mul_2 _ _) step ⟨e1, ?_⟩
  rw [size_rep]
  exact q
def rMulT (K : PySem.W.Frag) : R2 := fun x y H Q => ∃ a j xs, x = .ref a ∧ y = .int j ∧ SqT K H a xs ∧ xs ≠ [] ∧ (2 ≤ j ∧ j ≤ 1000 ∧ xs.length ≤ 1000) ∧ NewZ H (List.replicate j.toNat xs).flatten Q
theorem op_mulT {X : Cx} : OpR X (binaryOp .Mult) (rMulT X.K) := by
  intro pins s σ H x y v u Q I rx ry h
  obtain ⟨a, j, xs, rfl, rfl, hx, hne, ⟨j0, j1, hl⟩, q⟩ := h
  cases (show v = Value.ref a from rx)
  obtain ⟨t, rfl⟩ := (show ∃ t, u = Value.int j t from ry)
  obtain ⟨its, r, ht, _⟩ := I.tuple hx
  have el := r.length
  refine mul_tup ht (fun e => hne (by subst e; cases r; rfl)) j0 j1 (by omega) ?_
  have := rep_small hl (show j.toNat ≤ 1000 by omega)
  exact laidZ (t' := s.toks) I (r.rep j.toNat) (by rw [PyProof.Rows.lm_len_rep_flat, sizeLine_eq]; omega) q
def gMulT : D2 := fun x y S R => match x, y.int? with
  | .imm (.tuple ps), some j => ps ≠ [] ∧ (2 ≤ j ∧ j ≤ 1000 ∧ ps.length ≤ 1000) ∧ R (.imm (.tuple (List.replicate j.toNat ps).flatten)) S
  | _, _ => False
theorem snd_mulT {P : Program} {w : World} {K : PySem.W.Frag} : SndR P w K (rMulT K) gMulT := fun B S σ ts H x y dx dy R Q h hd k => by
  unfold gMulT at hd
  split at hd
  · rename_i ps j e
    obtain ⟨hne, hb, q⟩ := hd
    obtain ⟨F, α, h⟩ := h
    rw [int?_eq e] at h
    obtain ⟨a, ys, rfl, tz, hr⟩ := rp_tup (α := α) h.top2
    have el := hr.length
    exact ⟨a, j, ys, rfl, vok_int h.top, (tz.up h.fh).t, (fun z => hne (by subst z; cases hr; rfl)), ⟨hb.1, hb.2.1, by rw [el]; exact hb.2.2⟩, fun p ob hp ho => k _ _ S _ q ((h.sub mem2).newTup hp ho (hr.rep _)).ok⟩
  · exact hd.elim
theorem od_mulXT {X : Cx} : OpD X (binaryOp .Mult) (gOr (gOr gMul gMulC) gMulT) := by
  obtain ⟨r, a1, a2⟩ := (od_mulX (X := X)).ex
  exact ⟨_, .or a1 op_mulT, snd_rOr a2 snd_mulT⟩
section
variable {S : DSt} {R : DV → DSt → Prop} {x y : DV}
theorem r_mulP (q : gOr gMul gMulC x y S R) : gOr (gOr gMul gMulC) gMulT x y S R := .inl q
theorem r_mulT {ps : List PyData} {j : Int} (hne : ps ≠ []) (hb : 2 ≤ j ∧ j ≤ 1000 ∧ ps.length ≤ 1000) (q : R (.imm (.tuple (List.replicate j.toNat ps).flatten)) S) : gOr (gOr gMul gMulC) gMulT (.imm (.tuple ps)) (dI j) S R := .inr ⟨hne, hb, q⟩
end
end DL

set_option Elab.async false
set_option linter.all false
set_option maxRecDepth 100000
set_option autoImplicit false
set_option maxHeartbeats 2000000
namespace DL
open PySem PySem.Spec L2 PyProof.Rows

/-! ## d.update(e), e another dict -/
def tUpdZ (P : Program) (w : World) (to te : TE) : TE := fun σ H Q => to σ H fun x H1 => ∃ a, x = .ref a ∧ (∃ kvs, H1 a = some (DicO P w a kvs)) ∧ te σ H1 fun y H2 => ∃ b kvs more, y = .ref b ∧ a ≠ b ∧ H2 a = some (DicO P w a kvs) ∧ H2 b = some (DicO P w b more) ∧ kvs.length + more.length ≤ sizeLine ∧ Q .non (upd H2 a (DicO P w a (mergeL kvs more)))
section
variable {X : Cx} {o e : Expr} {apos cpos : Pos} {to te : TE} {do' de : DTE}
theorem pe_updZ (ho : PE X o to) (he : PE X e te) (hbase : attributeBase o "update" X.env (eval o X.env) = eval o X.env := by rfl) (hline : (apos.endLine == cpos.line) = true := by rfl) (ht : backTo cpos (starEach [e] X.env) = [(false, eval e X.env)] := by rfl) :
    PE X (.Call (.Attribute o "update" apos) [e] [] cpos) (tUpdZ X.prog X.w to te) := ⟨fun pins s σ H Q I h => by
  refine wpAny_Call_method1_late hbase hline ht (thn (ho.run pins s σ H _ I h) fun v s1 hv => ?_)
  obtain ⟨x, H1, I1, r1, a, rfl, ⟨kvs0, hH0⟩, q1⟩ := hv
  cases (show v = Value.ref a from r1)
  obtain ⟨_, _, _, _, d0⟩ := dz_of I1 hH0
  refine ⟨"dict", "dict.update", PySem.F.plainAttrs_dict, PySem.F.slot_dict_update, PySem.F.type_dict_update, d0.typeIs, d0.mapOf.noDict, ?_⟩
  refine Calls.callWith_builtin rfl (Calls.evalArgs_plain (Calls.spliced_cons (thn (he.run pins s1 σ H1 _ I1 q1) fun u s2 hu => Calls.spliced_nil ?_)))
  obtain ⟨y, H2, I2, r2, b, kvs, more, rfl, hne, ha, hb, hz, q⟩ := hu
  cases (show u = Value.ref b from r2)
  obtain ⟨_, na, va, ra, da⟩ := dz_of I2 ha
  obtain ⟨_, nb, vb, rb, db⟩ := dz_of I2 hb
  refine call_meetsIn PySem.F.slot_dict_update da.typeIs PySem.F.entry_dict_update (PySem.F.args_dict_update_2 _ _) (meets_dict_update (cK X.prog X.w) a b hne nb) ⟨va, vb, da, db, by rw [← ra.length, ← rb.length]; exact hz, fun h' hm _ hs => ?_⟩
  have hl := mergeL_len more kvs
  exact ⟨.non, _, d_write I2 (by rw [ha]; exact True.intro) hs (let ⟨o, _, _, ho, _⟩ := hm; ⟨o, ho⟩) (dz_ok (by omega) na (mergeL_kv rb ra) hm), rfl, q⟩⟩
def kUpd (de : DTE) (R : DV → DSt → Prop) : DV → DSt → Prop := fun x S1 => ∃ k, x = .cell k ∧ (∃ es, S1.cell k = some (.dic es)) ∧ de S1 fun y S2 => ∃ j es fs, y = .cell j ∧ k ≠ j ∧ S2.cell k = some (.dic es) ∧ S2.cell j = some (.dic fs) ∧ es.length + fs.length ≤ sizeLine ∧ R dN (S2.put k (.dic (mergeG es fs)))
def dUpd (do' de : DTE) : DTE := fun S R => do' S (kUpd de R)
theorem de_upd (ho : DE X o do') (he : DE X e de) (hbase : attributeBase o "update" X.env (eval o X.env) = eval o X.env := by rfl) (hline : (apos.endLine == cpos.line) = true := by rfl) (ht : backTo cpos (starEach [e] X.env) = [(false, eval e X.env)] := by rfl) :
    DE X (.Call (.Attribute o "update" apos) [e] [] cpos) (dUpd do' de) := by
  obtain ⟨t, a1, a2⟩ := ho.ex
  obtain ⟨u, b1, b2⟩ := he.ex
  refine ⟨_, pe_updZ a1 b1 hbase hline ht, fun B S σ ts H R Q h hd kk => a2 B S σ ts H _ _ h hd fun x d S1 H1 q o1 => ?_⟩
  obtain ⟨k, rfl, ⟨es0, e0⟩, q⟩ := q
  obtain ⟨F1, α1, o1⟩ := o1
  obtain ⟨a, ks0, ex, g1, g2, g3, _⟩ := o1.cellD o1.top e0
  subst ex
  refine ⟨a, rfl, ⟨ks0, g3⟩, b2 B S1 σ _ H1 _ _ o1.ok q fun y dy S2 H2 q2 o2 => ?_⟩
  obtain ⟨j, es, fs, rfl, hne, e1, e2, hz, q2⟩ := q2
  obtain ⟨F2, α2, o2⟩ := o2
  obtain ⟨a', ks, ea, p1, p2, p3, p4⟩ := o2.cellD o2.top2 e1
  cases ea
  obtain ⟨b, ls, eb, r1, r2, r3, r4⟩ := o2.cellD o2.top e2
  subst eb
  refine ⟨b, ks, ls, rfl, fun e => hne (by subst e; exact nd_at o2.nd p1 r1), p3, r3, by rw [Paired.length p4, Paired.length r4]; exact hz, ?_⟩
  exact kk _ _ _ _ q2 (((o2.cellPut (u := .dic (mergeG es fs)) p1 p2 ⟨_, upd_same, mergeG_ok r4 p4⟩).sub mem2).add vnon).ok
theorem r_upd {S : DSt} {R : DV → DSt → Prop} (h : do' S (kUpd de R)) : dUpd do' de S R := h
theorem r_kUpd {S : DSt} {R : DV → DSt → Prop} {k : Nat} {es : List (Leaf × DV)} (e : S.cell k = some (.dic es)) (h : de S fun y S2 => ∃ j es fs, y = .cell j ∧ k ≠ j ∧ S2.cell k = some (.dic es) ∧ S2.cell j = some (.dic fs) ∧ es.length + fs.length ≤ sizeLine ∧ R dN (S2.put k (.dic (mergeG es fs)))) : kUpd de R (.cell k) S := ⟨k, rfl, ⟨es, e⟩, h⟩
end
end DL

set_option Elab.async false
set_option linter.all false
set_option maxRecDepth 100000
set_option autoImplicit false
set_option maxHeartbeats 2000000
namespace DL
open PySem PySem.Spec L2 PyProof.Rows

/-! ## where a comprehension stands in a call -/
def argAt (i : Nat) : Expr → Expr
  | .Call _ as _ _ => as.getD i (.Constant .none 0 ⟨0, 0, 0, 0⟩)
  | e => e
/-! ## sorted(xs), the items lists of whole numbers -/
def encL (r : List Int) : PyData := .list (r.map .int)
def sortL (rows : List (List Int)) : List (List Int) := rows.mergeSort fun p q => decide (p ≤ q)
def rSortedL (P : Program) (w : World) (K : PySem.W.Frag) : List V → Hp → VK → Prop := fun vs H Q => ∃ (a : Addr) (xs : List V) (rows : List (List Int)) (F : Hp), vs = [V.ref a] ∧ SqL K H a xs ∧ Ex F H ∧ RpAll P w K F xs (rows.map encL) ∧
  ∀ (ys : List V) (p : Addr), RpAll P w K F ys ((sortL rows).map encL) → H p = none → Q (.ref p) (upd H p (.lst ys))
section
variable {X : Cx} {pins : List (Addr × Obj)} {σ : L2.St} {H F : Hp} {s : Shared}
theorem each_rp {P : Program} {w : World} {K : PySem.W.Frag} : ∀ {rows : List (List Int)} {xs : List V} {its : List Value}, RpAll P w K F xs (rows.map encL) → Vals xs its → PySem.W.EachIs (fun v r => ∃ x, RelV x v ∧ Rp P w K F x (encL r)) its rows
  | [], _, _, h, rv => by
    have h' : RpAll P w K F _ [] := h
    cases h'; cases rv; exact .nil
  | r :: rows, _, _, h, rv => by
    have h' : RpAll P w K F _ (encL r :: rows.map encL) := h
    cases h' with
    | cons h1 h2 => cases rv with
      | cons r1 r2 => exact .cons ⟨_, r1, h1⟩ (each_rp h2 r2)
theorem rp_each {P : Program} {w : World} {K : PySem.W.Frag} : ∀ {rows : List (List Int)} {its : List Value}, PySem.W.EachIs (fun v r => ∃ x, RelV x v ∧ Rp P w K F x (encL r)) its rows → ∃ xs, RpAll P w K F xs (rows.map encL) ∧ Vals xs its
  | _, _, .nil => ⟨[], .nil, .nil⟩
  | _, _, .cons ⟨x, h1, h2⟩ t => by
    obtain ⟨xs, a, b⟩ := rp_each t
    exact ⟨x :: xs, .cons h2 a, .cons h1 b⟩
theorem depth_encL (r : List Int) : (encL r).depth ≤ 1 := by
  unfold encL
  rw [PyData.depth, PySem.W.depth_ints]
  omega
theorem cr_sortedL (hu : X.A.units + 60 < cLine) : CallR X (.builtin "sorted") (rSortedL X.prog X.w X.K) := by
  intro pins s σ H vs us Q I r h
  obtain ⟨a, xs, rows, F, rfl, hs, e, hr, q⟩ := h
  obtain ⟨its, rv, hl, hz⟩ := I.list hs
  rw [Vals.ref1 r]
  have e1 := each_rp hr rv
  have hlen : rows.length = xs.length := by rw [hr.length, List.length_map]
  refine PySem.W.sorted_data (enc := encL) hl.isList e1 (e1.mono fun v d ⟨x, h1, h2⟩ => reads_of I e h2 h1) (PySem.W.AllAlike.of fun b b' => ?_) (PySem.W.Sortable.others fun b => ⟨(fun z => nomatch z), (fun _ z => nomatch z)⟩) (by rw [hlen]; exact hz) (fun b _ => by have := depth_encL b; omega) fun out hn eo => ?_
  · show PySem.W.alike (.list _) (.list _) = true
    rw [PySem.W.alike]
    exact PySem.W.alike_ints b b'
  · rw [show PySem.W.dataLe false encL = fun p q => decide (p ≤ q) from PySem.W.dataLe_rows fun r => r] at eo
    obtain ⟨ys, ry, ry2⟩ := rp_each eo
    obtain ⟨ep, he'⟩ := PyProof.Rows.sortedAll_at s.heap its out.toArray
    have hly : ys.length ≤ sizeLine := by
      rw [ry2.length, hn, hlen]; exact hz
    exact ⟨.ref _, upd H (s.heap.objs.size + 1) (.lst ys), I.laid (t' := s.toks) (fun _ _ => PyProof.Rows.sortedAll_old) (Nat.le_succ _) ⟨hly, out, ep, ry2, he'⟩, rfl, q _ _ ry (I.hok.fresh (Nat.le_succ _))⟩
end
def gSortedL : DC1 := fun ds S R => match ds with
  | [x] => ∃ es rows, S.seq x = some (true, es) ∧ allImm es = some (rows.map encL) ∧ R (.imm (.list ((sortL rows).map encL))) S
  | _ => False
theorem cd_sortedL {X : Cx} (hu : X.A.units + 60 < cLine) : CallD X (.builtin "sorted") gSortedL := ⟨_, cr_sortedL hu, fun B S σ ts H xs ds R Q hl h hd k => by
  match ds, hd with
  | [x], hd =>
    match xs, hl with
    | [y], _ =>
      obtain ⟨F, α, h⟩ := h
      have h1 := h.tm (y, x) (by simp)
      obtain ⟨es, rows, e1, e2, q⟩ := hd
      obtain ⟨p, ys, rfl, hq, hp⟩ := h.seq h1 e1
      exact ⟨p, ys, rows, F, rfl, hq, h.fh, imms e2 hp, fun zs l hz hn => k _ _ S _ q ((h.sub memA).newLst hn hz).ok⟩⟩
theorem r_sortedL {x : DV} {es : List DV} {rows : List (List Int)} {S : DSt} {R : DV → DSt → Prop} (e1 : S.seq x = some (true, es)) (e2 : allImm es = some (rows.map encL)) (q : R (.imm (.list ((sortL rows).map encL))) S) : gSortedL [x] S R := ⟨es, rows, e1, e2, q⟩
/-- what is in order, is what sorted gives -/
theorem sortL_eq {rows out : List (List Int)} (hp : rows.Perm out) (ho : out.Pairwise (· ≤ ·)) : sortL rows = out := by
  refine List.Perm.eq_of_pairwise (le := (· ≤ ·)) (fun a b _ _ h1 h2 => List.le_antisymm h1 h2) ?_ ho ((List.mergeSort_perm _ _).trans hp)
  have := List.pairwise_mergeSort (le := fun p q : List Int => decide (p ≤ q)) (fun a b c h1 h2 => decide_eq_true (List.le_trans (of_decide_eq_true h1) (of_decide_eq_true h2))) (fun a b => by
    rcases List.le_total a b with z | z
    · simp [z]
    · simp [z]) rows
  exact this.imp fun h => of_decide_eq_true h
end DL

set_option Elab.async false
set_option linter.all false
set_option maxRecDepth 100000
set_option autoImplicit false
set_option maxHeartbeats 2000000
namespace DL
open PySem PySem.Spec L2 PyProof.Rows

/-! ## a promise that is never asked -/
theorem dfn_none {P : Program} {w : World} {K : PySem.W.Frag} {mg : Str → Option Value} {base : Heap} {k : Nat} {f : Addr} {fd : FuncData} {ps : List Str} {dsp : DSp} (h : ∀ ds μ R, ¬ dsp ds μ R) : DFn P w K mg base k f fd ps dsp :=
  ⟨⟨fun vs H Q E ⟨_, _, _, _, _, _, _, q, _⟩ => absurd q (h _ _ _), fun A outer s H args us vs Q E _ _ _ _ _ ⟨_, _, _, _, _, _, _, q, _⟩ => absurd q (h _ _ _)⟩⟩
/-! ## {} that stays as it is -/
def dNewDO : DTE := fun S R => dNewD S R ∨ R (.imm (.dict [])) S
section
variable {X : Cx} {pos : Pos}
theorem de_newDO : DE X (.Dict [] [] pos) dNewDO := ⟨_, pe_view pe_dnewK, fun B S σ ts H R Q h hd k => by
  obtain ⟨F, α, o⟩ := h
  intro p hp
  have o1 := o.free (o := .dK []) (fun q => o.an p q hp) (o.freeF hp) (o.freshB hp)
  refine ⟨p, [], rfl, upd_same, ?_⟩
  have e2 : upd (upd H p (.dK [])) p (DicO X.prog X.w p (lfs [])) = upd H p (DicO X.prog X.w p []) := by
    funext b
    unfold upd
    by_cases c : b = p
    · rw [if_pos c, if_pos c]; rfl
    · rw [if_neg c, if_neg c, if_neg c]
  rw [e2]
  rcases hd with hd | hd
  · exact k _ _ _ _ hd ((o.cellNew (o := DicO X.prog X.w p []) (u := .dic []) hp ⟨[], upd_same, .nil⟩).add (d := .cell S.μ.length) ⟨p, by rw [← o.al, List.getElem?_append_right (Nat.le_refl _), Nat.sub_self]; rfl, rfl⟩).ok
  · exact k _ _ S _ hd ((o.lay (o := DicO X.prog X.w p []) hp).add (v := .ref p) (d := .imm (.dict [])) (Rp.dic (kvs := []) (ps := []) upd_same rfl RpAll.nil)).ok⟩
end
theorem r_newDC {S : DSt} {R : DV → DSt → Prop} (q : dNewD S R) : dNewDO S R := .inl q
theorem r_newDI {S : DSt} {R : DV → DSt → Prop} (q : R (.imm (.dict [])) S) : dNewDO S R := .inr q
/-! ## repr of data in which {} stands, but no list -/
mutual
def noL : PyData → Bool
  | .list _ => false
  | .tuple xs => noLAll xs
  | .dict ps => ps.isEmpty
  | _ => true
def noLAll : List PyData → Bool
  | [] => true
  | x :: xs => noL x && noLAll xs
end
theorem readsAll_no {h : Heap} {vs : List Value} {as : List Addr} (r : ReadsAll h vs [] as) : as = [] := by cases r; rfl
section
variable {X : Cx} {pins : List (Addr × Obj)} {σ : L2.St} {H F : Hp} {s : Shared}
mutual
theorem reads_nol (I : Inv X pins σ H s) (e : Ex F H) : ∀ {d : PyData} {v : V}, noL d = true → Rp X.prog X.w X.K F v d → ∀ {u : Value}, RelV v u → ∃ as, Reads s.heap u d as ∧ sysModules ∉ as
  | .none, _, _, .non, u, r => by cases (show u = Value.none from r); exact ⟨_, .none, by simp⟩
  | .bool b, _, _, .bl _, u, r => by cases (show u = Value.bool b from r); exact ⟨_, .bool b, by simp⟩
  | .int i, _, _, .int _, u, r => by obtain ⟨t, rfl⟩ := (show ∃ t, u = Value.int i t from r); exact ⟨_, .int i t, by simp⟩
  | .str x, _, _, .str _, u, r => by obtain ⟨t, rfl⟩ := (show ∃ t, u = Value.str x t from r); exact ⟨_, .str x t, by simp⟩
  | .list ds, _, hn, _, u, r => by simp [noL] at hn
  | .tuple ds, _, hn, .tup (a := a) (xs := xs) h hr, u, r => by
    cases (show u = Value.ref a from r)
    obtain ⟨its, rv, ⟨o, ho, hc, n, hd⟩, _⟩ := I.tuple (h.up e).t
    obtain ⟨as, ra, hs⟩ := readsAll_nol I e (by simpa [noL] using hn) hr rv
    exact ⟨_, .tuple ho hc hd ra, hs⟩
  | .dict ps, _, hn, .dic (a := a) (kvs := kvs) h hk hv, u, r => by
    obtain ⟨as, ra⟩ := reads_of I e (.dic h hk hv) r
    have hp : ps = [] := by simpa [noL] using hn
    subst hp
    obtain ⟨z, hs, _⟩ := dz_of I (e _ _ h)
    cases (show u = Value.ref a from r)
    refine ⟨as, ra, ?_⟩
    cases ra with
    | dict r1 r2 r3 r4 r5 =>
      rw [readsAll_no r4, readsAll_no r5]
      intro q
      rcases List.mem_cons.mp q with q | q
      · exact absurd hs (by rw [← q]; simp)
      · cases q
theorem readsAll_nol (I : Inv X pins σ H s) (e : Ex F H) : ∀ {ds : List PyData} {vs : List V}, noLAll ds = true → RpAll X.prog X.w X.K F vs ds → ∀ {us : List Value}, Vals vs us → ∃ as, ReadsAll s.heap us ds as ∧ sysModules ∉ as
  | [], _, _, .nil, _, r => by cases r; exact ⟨_, .nil, by simp⟩
  | _ :: _, _, hn, .cons h hr, _, r => by
    cases r with
    | cons r1 r2 =>
      rw [noLAll, Bool.and_eq_true] at hn
      obtain ⟨as, a1, a2⟩ := reads_nol I e hn.1 h r1
      obtain ⟨bs, b1, b2⟩ := readsAll_nol I e hn.2 hr r2
      exact ⟨_, .cons a1 b1, fun q => (List.mem_append.mp q).elim a2 b2⟩
end
end
/-- data that may be shown, {} in it too -/
def CanShowN (d : PyData) : Prop := d.showable = true ∧ wtD d ≤ 10000000 ∧ d.depth ≤ 50 ∧ noL d = true
theorem CanShowN.fits {d : PyData} (h : CanShowN d) : d.shown.length ≤ sizeLine := by
  have h1 := shown_le d
  have h2 := h.2.1
  rw [sizeLine_eq]
  omega
def rReprN (P : Program) (w : World) (K : PySem.W.Frag) : List V → Hp → VK → Prop := fun vs H Q => ∃ (v : V) (d : PyData) (F : Hp), vs = [v] ∧ Ex F H ∧ Rp P w K F v d ∧ CanShowN d ∧ (∃ a, v = .ref a) ∧ Q (.str d.shown) H
theorem call_reprN {X : Cx} (hg : X.A.guards = some []) (hu : X.A.units + 60 < cLine) : CallR X (.builtin "repr") (rReprN X.prog X.w X.K) := by
  intro pins s σ H vs us Q I r h
  obtain ⟨v, d, F, rfl, e, hr, hc, ⟨a, rfl⟩, q⟩ := h
  rw [Vals.ref1 r]
  obtain ⟨as, ra, hs⟩ := reads_nol I e hc.2.2.2 hr (u := .ref a) rfl
  exact repr_of_reads' ra hc.1 (fun _ => hs) hg (by have := hc.2.2.1; omega) (fun _ _ e => e) (fun h' u tk hk => ⟨.str _, H, I.kept hk, ⟨_, rfl⟩, q⟩) hc.fits
def isBox : PyData → Bool
  | .tuple _ => true
  | .dict _ => true
  | _ => false
def gReprN : DC1 := fun ds S R => gReprX ds S R ∨ (match ds with
  | [.imm d] => CanShowN d ∧ isBox d = true ∧ R (dS d.shown) S
  | _ => False)
theorem cd_reprN {X : Cx} (hg : X.A.guards = some []) (hu : X.A.units + 60 < cLine) : CallD X (.builtin "repr") gReprN := by
  obtain ⟨r, c1, c2⟩ := (cd_reprX hg hu).ex
  refine ⟨_, .or c1 (call_reprN hg hu), fun B S σ ts H xs ds R Q hl h hd k => ?_⟩
  rcases hd with hd | hd
  · exact .inl (c2 B S σ ts H xs ds R Q hl h hd k)
  · match ds, hd with
    | [.imm d], ⟨hc, hd, q⟩ =>
      match xs, hl with
      | [x], _ =>
        obtain ⟨F, α, h⟩ := h
        have hx : Rp X.prog X.w X.K F x d := h.tm (x, .imm d) (by simp)
        have hr : ∃ a, x = V.ref a := by
          cases d with
          | tuple _ => cases hx; exact ⟨_, rfl⟩
          | dict _ => cases hx; exact ⟨_, rfl⟩
          | _ => cases hd
        exact .inr ⟨x, d, F, rfl, h.fh, hx, hc, hr, k _ _ S H q ((h.sub memA).add vstr).ok⟩
theorem r_reprNX {ds : List DV} {S : DSt} {R : DV → DSt → Prop} (q : gReprX ds S R) : gReprN ds S R := .inl q
theorem r_reprN {d : PyData} {S : DSt} {R : DV → DSt → Prop} (hc : CanShowN d) (hd : isBox d = true) (q : R (dS d.shown) S) : gReprN [.imm d] S R := .inr ⟨hc, hd, q⟩
/-! ## max(xs) -/
def gMaxL : DC1 := fun ds S R => match ds with
  | [x] => ∃ es ns, S.seq x = some (true, es) ∧ allI es = some ns ∧ 0 < ns.length ∧ ∀ m, m ∈ ns → (∀ y, y ∈ ns → y ≤ m) → R (dI m) S
  | _ => False
theorem cd_maxL {X : Cx} (hc : X.calm = true) : CallD X (.builtin "max") gMaxL := ⟨_, cr_max hc, fun B S σ ts H xs ds R Q hl h hd k => by
  match ds, hd with
  | [x], hd =>
    match xs, hl with
    | [y], _ =>
      obtain ⟨F, α, h⟩ := h
      have h1 := h.tm (y, x) (by simp)
      obtain ⟨es, ns, e, e2, hn, q⟩ := hd
      obtain ⟨p, ys, rfl, hq, hp⟩ := h.seq h1 e
      have hq' : SqL X.K H p ys := hq
      rw [allI_ok hp e2] at hq'
      exact ⟨p, ns, rfl, hq', hn, fun m m1 m2 => k _ _ S H (q m m1 m2) ((h.sub memA).add vint).ok⟩⟩
theorem r_maxL {x : DV} {es : List DV} {ns : List Int} {S : DSt} {R : DV → DSt → Prop} (e1 : S.seq x = some (true, es)) (e2 : allI es = some ns) (hn : 0 < ns.length) (q : ∀ m, m ∈ ns → (∀ y, y ∈ ns → y ≤ m) → R (dI m) S) : gMaxL [x] S R := ⟨es, ns, e1, e2, hn, q⟩
end DL

set_option Elab.async false
set_option linter.all false
set_option maxRecDepth 100000
set_option autoImplicit false
set_option maxHeartbeats 4000000
namespace K35
open PySem PySem.Spec L2 DL PyProof.Rows
/-! ## the text: scopes, data readings, derivations (printed by gen.py) -/
def topS (i : Nat) : Stmt := PySem.Challenge.pw_deadlane_k35_programs_judged.main.body.getD i (.Pass ⟨0, 0, 0, 0⟩)
abbrev s_is_int : Stmt := topS 2
abbrev nm_is_int : List Str := ["value"]
theorem sc_is_int : FnScope nm_is_int ["value"] (defScope s_is_int) := ⟨rfl, rfl, rfl, by decide +kernel, rfl, by decide +kernel, by decide +kernel⟩
abbrev s_in_range : Stmt := topS 3
abbrev nm_in_range : List Str := ["value", "low", "high"]
theorem sc_in_range : FnScope nm_in_range ["value", "low", "high"] (defScope s_in_range) := ⟨rfl, rfl, rfl, by decide +kernel, rfl, by decide +kernel, by decide +kernel⟩
abbrev s_is_car : Stmt := topS 4
abbrev nm_is_car : List Str := ["value"]
theorem sc_is_car : FnScope nm_is_car ["value"] (defScope s_is_car) := ⟨rfl, rfl, rfl, by decide +kernel, rfl, by decide +kernel, by decide +kernel⟩
abbrev s_steps_in : Stmt := topS 10
abbrev nm_steps_in : List Str := ["value", "depth", "found", "step", "inner"]
theorem sc_steps_in : FnScope nm_steps_in ["value", "depth"] (defScope s_steps_in) := ⟨rfl, rfl, rfl, by decide +kernel, rfl, by decide +kernel, by decide +kernel⟩
abbrev s_is_program : Stmt := topS 11
abbrev nm_is_program : List Str := ["value", "steps"]
theorem sc_is_program : FnScope nm_is_program ["value"] (defScope s_is_program) := ⟨rfl, rfl, rfl, by decide +kernel, rfl, by decide +kernel, by decide +kernel⟩
abbrev s__law_deep : Stmt := topS 22
abbrev nm__law_deep : List Str := ["levels", "found", "turn"]
theorem sc__law_deep : FnScope nm__law_deep ["levels"] (defScope s__law_deep) := ⟨rfl, rfl, rfl, by decide +kernel, rfl, by decide +kernel, by decide +kernel⟩
abbrev s__law_steps : Stmt := topS 18
abbrev nm__law_steps : List Str := ["program_here", "step", "inner"]
theorem sc__law_steps : FnScope nm__law_steps ["program_here"] (defScope s__law_steps) := ⟨rfl, rfl, rfl, by decide +kernel, rfl, by decide +kernel, by decide +kernel⟩
abbrev s__law_depth : Stmt := topS 17
abbrev nm__law_depth : List Str := ["program_here", "step", "inner"]
theorem sc__law_depth : FnScope nm__law_depth ["program_here"] (defScope s__law_depth) := ⟨rfl, rfl, rfl, by decide +kernel, rfl, by decide +kernel, by decide +kernel⟩
abbrev s__law_is_form : Stmt := topS 19
abbrev nm__law_is_form : List Str := ["value", "step"]
theorem sc__law_is_form : FnScope nm__law_is_form ["value"] (defScope s__law_is_form) := ⟨rfl, rfl, rfl, by decide +kernel, rfl, by decide +kernel, by decide +kernel⟩
abbrev s__law_due : Stmt := topS 20
abbrev nm__law_due : List Str := ["value"]
theorem sc__law_due : FnScope nm__law_due ["value"] (defScope s__law_due) := ⟨rfl, rfl, rfl, by decide +kernel, rfl, by decide +kernel, by decide +kernel⟩
abbrev s__law_spoon : Stmt := topS 14
abbrev nm__law_spoon : List Str := ["bowl", "many", "found", "mixed"]
theorem sc__law_spoon : FnScope nm__law_spoon ["bowl", "many"] (defScope s__law_spoon) := ⟨rfl, rfl, rfl, by decide +kernel, rfl, by decide +kernel, by decide +kernel⟩
abbrev s__law_changed : Stmt := topS 21
abbrev nm__law_changed : List Str := ["bowl", "program_here", "at", "step", "odd"]
theorem sc__law_changed : FnScope nm__law_changed ["bowl", "program_here"] (defScope s__law_changed) := ⟨rfl, rfl, rfl, by decide +kernel, rfl, by decide +kernel, by decide +kernel⟩
abbrev s__law_program : Stmt := topS 16
abbrev nm__law_program : List Str := ["bowl", "cars", "levels", "most", "wide", "left", "found", "turn", "often"]
theorem sc__law_program : FnScope nm__law_program ["bowl", "cars", "levels", "most", "wide", "left"] (defScope s__law_program) := ⟨rfl, rfl, rfl, by decide +kernel, rfl, by decide +kernel, by decide +kernel⟩
abbrev s__law_shuffled : Stmt := topS 15
abbrev nm__law_shuffled : List Str := ["bowl", "items", "left", "turn"]
theorem sc__law_shuffled : FnScope nm__law_shuffled ["bowl", "items"] (defScope s__law_shuffled) := ⟨rfl, rfl, rfl, by decide +kernel, rfl, by decide +kernel, by decide +kernel⟩
abbrev s__law_bowl : Stmt := topS 13
abbrev nm__law_bowl : List Str := ["script", "k", "cell"]
theorem sc__law_bowl : FnScope nm__law_bowl ["script", "k"] (defScope s__law_bowl) := ⟨rfl, rfl, rfl, by decide +kernel, rfl, by decide +kernel, by decide +kernel⟩
abbrev s_law : Stmt := topS 23
abbrev nm_law : List Str := ["script", "k", "bowl", "cars", "left", "levels", "most", "program_here", "turn", "value", "kept", "some"]
theorem sc_law : FnScope nm_law ["script"] (defScope s_law) := ⟨rfl, rfl, rfl, by decide +kernel, rfl, by decide +kernel, by decide +kernel⟩
/-- what the top has written -/
structure Top (K : PySem.W.Frag) (mg : Str → Option Value) where
  f_is_int : Addr
  fd_is_int : FuncData
  F_is_int : Fun K "is_int" "is_int" s_is_int f_is_int fd_is_int
  b_is_int : Binds K fd_is_int ["value"] []
  g_is_int : mg "is_int" = some (.ref f_is_int)
  f_in_range : Addr
  fd_in_range : FuncData
  F_in_range : Fun K "in_range" "in_range" s_in_range f_in_range fd_in_range
  b_in_range : Binds K fd_in_range ["value", "low", "high"] []
  g_in_range : mg "in_range" = some (.ref f_in_range)
  f_is_car : Addr
  fd_is_car : FuncData
  F_is_car : Fun K "is_car" "is_car" s_is_car f_is_car fd_is_car
  b_is_car : Binds K fd_is_car ["value"] []
  g_is_car : mg "is_car" = some (.ref f_is_car)
  f_steps_in : Addr
  fd_steps_in : FuncData
  F_steps_in : Fun K "steps_in" "steps_in" s_steps_in f_steps_in fd_steps_in
  b_steps_in : Binds K fd_steps_in ["value", "depth"] []
  g_steps_in : mg "steps_in" = some (.ref f_steps_in)
  f_is_program : Addr
  fd_is_program : FuncData
  F_is_program : Fun K "is_program" "is_program" s_is_program f_is_program fd_is_program
  b_is_program : Binds K fd_is_program ["value"] []
  g_is_program : mg "is_program" = some (.ref f_is_program)
  f__law_deep : Addr
  fd__law_deep : FuncData
  F__law_deep : Fun K "_law_deep" "_law_deep" s__law_deep f__law_deep fd__law_deep
  b__law_deep : Binds K fd__law_deep ["levels"] []
  g__law_deep : mg "_law_deep" = some (.ref f__law_deep)
  f__law_steps : Addr
  fd__law_steps : FuncData
  F__law_steps : Fun K "_law_steps" "_law_steps" s__law_steps f__law_steps fd__law_steps
  b__law_steps : Binds K fd__law_steps ["program_here"] []
  g__law_steps : mg "_law_steps" = some (.ref f__law_steps)
  f__law_depth : Addr
  fd__law_depth : FuncData
  F__law_depth : Fun K "_law_depth" "_law_depth" s__law_depth f__law_depth fd__law_depth
  b__law_depth : Binds K fd__law_depth ["program_here"] []
  g__law_depth : mg "_law_depth" = some (.ref f__law_depth)
  f__law_is_form : Addr
  fd__law_is_form : FuncData
  F__law_is_form : Fun K "_law_is_form" "_law_is_form" s__law_is_form f__law_is_form fd__law_is_form
  b__law_is_form : Binds K fd__law_is_form ["value"] []
  g__law_is_form : mg "_law_is_form" = some (.ref f__law_is_form)
  f__law_due : Addr
  fd__law_due : FuncData
  F__law_due : Fun K "_law_due" "_law_due" s__law_due f__law_due fd__law_due
  b__law_due : Binds K fd__law_due ["value"] []
  g__law_due : mg "_law_due" = some (.ref f__law_due)
  f__law_spoon : Addr
  fd__law_spoon : FuncData
  F__law_spoon : Fun K "_law_spoon" "_law_spoon" s__law_spoon f__law_spoon fd__law_spoon
  b__law_spoon : Binds K fd__law_spoon ["bowl", "many"] []
  g__law_spoon : mg "_law_spoon" = some (.ref f__law_spoon)
  f__law_changed : Addr
  fd__law_changed : FuncData
  F__law_changed : Fun K "_law_changed" "_law_changed" s__law_changed f__law_changed fd__law_changed
  b__law_changed : Binds K fd__law_changed ["bowl", "program_here"] []
  g__law_changed : mg "_law_changed" = some (.ref f__law_changed)
  f__law_program : Addr
  fd__law_program : FuncData
  F__law_program : Fun K "_law_program" "_law_program" s__law_program f__law_program fd__law_program
  b__law_program : Binds K fd__law_program ["bowl", "cars", "levels", "most", "wide", "left"] []
  g__law_program : mg "_law_program" = some (.ref f__law_program)
  f__law_shuffled : Addr
  fd__law_shuffled : FuncData
  F__law_shuffled : Fun K "_law_shuffled" "_law_shuffled" s__law_shuffled f__law_shuffled fd__law_shuffled
  b__law_shuffled : Binds K fd__law_shuffled ["bowl", "items"] []
  g__law_shuffled : mg "_law_shuffled" = some (.ref f__law_shuffled)
  f__law_bowl : Addr
  fd__law_bowl : FuncData
  F__law_bowl : Fun K "_law_bowl" "_law_bowl" s__law_bowl f__law_bowl fd__law_bowl
  b__law_bowl : Binds K fd__law_bowl ["script", "k"] []
  g__law_bowl : mg "_law_bowl" = some (.ref f__law_bowl)
  f_law : Addr
  fd_law : FuncData
  F_law : Fun K "law" "law" s_law f_law fd_law
  b_law : Binds K fd_law ["script"] []
  g_law : mg "law" = some (.ref f_law)
  z_bool : mg "bool" = none
  z_int : mg "int" = none
  z_isinstance : mg "isinstance" = none
  z_len : mg "len" = none
  z_list : mg "list" = none
  z_max : mg "max" = none
  z_min : mg "min" = none
  z_range : mg "range" = none
  z_repr : mg "repr" = none
  z_sum : mg "sum" = none
  z_tuple : mg "tuple" = none
  c_CARS : ∃ t, mg "CARS" = some (.int 60 t)
  c_MOST_DEPTH : ∃ t, mg "MOST_DEPTH" = some (.int 8 t)
  c_MOST_STEPS : ∃ t, mg "MOST_STEPS" = some (.int 60 t)
  c_MOST_STEPS_IN_ALL : ∃ t, mg "MOST_STEPS_IN_ALL" = some (.int 200 t)
  c_MOST_TIMES : ∃ t, mg "MOST_TIMES" = some (.int 1000000000000000000000000000000 t)
section
variable {P : Program} {w : World} {K : PySem.W.Frag} {mg : Str → Option Value} {base : Heap}
def t_is_int (P : Program) (w : World) (K : PySem.W.Frag) : DTS :=
  (dRetW P w K (dAndV (dCB gIsi (dCons (dVar 0) (dCons (dC (.raw (.ty "int"))) dNil))) (dNotV (dCB gIsi (dCons (dVar 0) (dCons (dC (.raw (.ty "bool"))) dNil))))))
theorem b_is_int (G : Top K mg) (cdv : Value) (A : Around) (outer : List Env) (s : Shared) (H : Hp) (E : XK) (hr : Room 0 (A.deeper (envOfC "is_int" (defScope s_is_int) s.heap.objs.size G.f_is_int cdv))) (hgd : A.guards = some []) :
    DSs (ctxD P w K mg base nm_is_int "is_int" (defScope s_is_int) G.f_is_int cdv A outer s H E) (defBody s_is_int) (t_is_int P w K) :=
  have S := sc_is_int
  (dss_one (ds_retW (de_and (de_cb cd_isi (by rfl) G.z_isinstance boot_isinstance (da_cons (dv 0) (da_cons (de_braw (v := .ty "int") (by rfl) G.z_int boot_int rfl) da_nil))) (de_one (de_not (de_cb cd_isi (by rfl) G.z_isinstance boot_isinstance (da_cons (dv 0) (da_cons (de_braw (v := .ty "bool") (by rfl) G.z_bool boot_bool rfl) da_nil))))))))
theorem ok_is_int (G : Top K mg) {sp : DSp} (len : ∀ ds μ R, sp ds μ R → ds.length = 1)
    (go : ∀ ds μ R, sp ds μ R → t_is_int P w K { nx := fun S => R dN S.μ, rt := fun d S => R d S.μ } ⟨ds.map some ++ List.replicate (1 - ds.length) none, μ⟩) : DFn P w K mg base 1 G.f_is_int G.fd_is_int ["value"] sp :=
  dfn_len G.F_is_int sc_is_int len (fun cdv A outer s H E hr hgd => b_is_int G cdv A outer s H E hr hgd) go
def t_in_range (P : Program) (w : World) (K : PySem.W.Frag) (sp_is_int : DSp) : DTS :=
  (dRetW P w K (dAndV (dCallX sp_is_int [] (dCons (dVar 0) dNil)) (dChain (gCmp fun i j => decide (i ≤ j)) (gCmp fun i j => decide (i ≤ j)) (dVar 1) (dVar 0) (dVar 2))))
theorem b_in_range (G : Top K mg) {sp_is_int : DSp} (h_is_int : DFn P w K mg base 1 G.f_is_int G.fd_is_int ["value"] sp_is_int) (cdv : Value) (A : Around) (outer : List Env) (s : Shared) (H : Hp) (E : XK) (hr : Room 1 (A.deeper (envOfC "in_range" (defScope s_in_range) s.heap.objs.size G.f_in_range cdv))) (hgd : A.guards = some []) :
    DSs (ctxD P w K mg base nm_in_range "in_range" (defScope s_in_range) G.f_in_range cdv A outer s H E) (defBody s_in_range) (t_in_range P w K sp_is_int) :=
  have S := sc_in_range
  (dss_one (ds_retW (de_and (de_callX h_is_int (hr.mono (by omega)) hgd (by rfl) G.g_is_int G.F_is_int.kp G.b_is_int .nil (fun _ _ => .nil) (da_cons (dv 0) da_nil)) (de_one (de_chain od_le od_le (dv 1) (dv 0) (dv 2))))))
theorem ok_in_range (G : Top K mg) {sp_is_int : DSp} (h_is_int : DFn P w K mg base 1 G.f_is_int G.fd_is_int ["value"] sp_is_int) {sp : DSp} (len : ∀ ds μ R, sp ds μ R → ds.length = 3)
    (go : ∀ ds μ R, sp ds μ R → t_in_range P w K sp_is_int { nx := fun S => R dN S.μ, rt := fun d S => R d S.μ } ⟨ds.map some ++ List.replicate (3 - ds.length) none, μ⟩) : DFn P w K mg base 2 G.f_in_range G.fd_in_range ["value", "low", "high"] sp :=
  dfn_len G.F_in_range sc_in_range len (fun cdv A outer s H E hr hgd => b_in_range G h_is_int cdv A outer s H E hr hgd) go
def t_is_car (P : Program) (w : World) (K : PySem.W.Frag) (sp_in_range : DSp) : DTS :=
  (dRetW P w K (dCallX sp_in_range [] (dCons (dVar 0) (dCons (dC (dI 0)) (dCons (dOp gSub (dC (dI 60)) (dC (dI 1))) dNil)))))
theorem b_is_car (G : Top K mg) {sp_in_range : DSp} (h_in_range : DFn P w K mg base 2 G.f_in_range G.fd_in_range ["value", "low", "high"] sp_in_range) (cdv : Value) (A : Around) (outer : List Env) (s : Shared) (H : Hp) (E : XK) (hr : Room 2 (A.deeper (envOfC "is_car" (defScope s_is_car) s.heap.objs.size G.f_is_car cdv))) (hgd : A.guards = some []) :
    DSs (ctxD P w K mg base nm_is_car "is_car" (defScope s_is_car) G.f_is_car cdv A outer s H E) (defBody s_is_car) (t_is_car P w K sp_in_range) :=
  have S := sc_is_car
  (dss_one (ds_retW (de_callX h_in_range (hr.mono (by omega)) hgd (by rfl) G.g_in_range G.F_in_range.kp G.b_in_range .nil (fun _ _ => .nil) (da_cons (dv 0) (da_cons de_int (da_cons (de_op od_sub (de_gintE (by rfl) G.c_CARS) de_int) da_nil))))))
theorem ok_is_car (G : Top K mg) {sp_in_range : DSp} (h_in_range : DFn P w K mg base 2 G.f_in_range G.fd_in_range ["value", "low", "high"] sp_in_range) {sp : DSp} (len : ∀ ds μ R, sp ds μ R → ds.length = 1)
    (go : ∀ ds μ R, sp ds μ R → t_is_car P w K sp_in_range { nx := fun S => R dN S.μ, rt := fun d S => R d S.μ } ⟨ds.map some ++ List.replicate (1 - ds.length) none, μ⟩) : DFn P w K mg base 3 G.f_is_car G.fd_is_car ["value"] sp :=
  dfn_len G.F_is_car sc_is_car len (fun cdv A outer s H E hr hgd => b_is_car G h_in_range cdv A outer s H E hr hgd) go
def t_steps_in (P : Program) (w : World) (K : PySem.W.Frag) (sp_is_car : DSp) (sp_steps_in : DSp) (sp_in_range : DSp) : DTS :=
  (dSeq (dIfS (dOr (dTest (dOp gEqX (dVar 1) (dC (dI 0)))) (dOr (dNot (dTest (dCB gIsi (dCons (dVar 0) (dCons (dC (.raw (.ty "tuple"))) dNil))))) (dNot (dTest (dChain (gCmp fun i j => decide (i ≤ j)) (gCmp fun i j => decide (i ≤ j)) (dC (dI 1)) (dCB gLenA (dCons (dVar 0) dNil)) (dC (dI 60))))))) (dRetW P w K (dC dN)) dNext)
    (dSeq (dAsg (dCB gLenA (dCons (dVar 0) dNil)) (dgName 2))
    (dSeq (dFor (diAny (dVar 0)) (dgName 3)
    (dIfS (dNot (dTest (dCallX sp_is_car [] (dCons (dVar 3) dNil)))) (dSeq (dIfS (dOr (dNot (dTest (dCB gIsi (dCons (dVar 3) (dCons (dC (.raw (.ty "tuple"))) dNil))))) (dOr (dTest (dOp gNeX (dCB gLenA (dCons (dVar 3) dNil)) (dC (dI 2)))) (dNot (dTest (dCallX sp_in_range [] (dCons (dOp gAt (dVar 3) (dC (dI 0))) (dCons (dC (dI 1)) (dCons (dC (dI 1000000000000000000000000000000)) dNil)))))))) (dRetW P w K (dC dN)) dNext)
    (dSeq (dAsg (dCallX sp_steps_in [] (dCons (dOp gAt (dVar 3) (dC (dI 1))) (dCons (dOp gSub (dVar 1) (dC (dI 1))) dNil))) (dgName 4))
    (dSeq (dIfS (dTest (dOp gIsN (dVar 4) (dC dN))) (dRetW P w K (dC dN)) dNext)
    (dAug 2 (gII (fun _ _ => True) fun i j => dI (i + j)) (dVar 4))))) dNext))
    (dRetW P w K (dVar 2)))))
theorem b_steps_in (G : Top K mg) {kk : Nat} (hkk : 3 ≤ kk) {sp_is_car : DSp} {sp_steps_in : DSp} {sp_in_range : DSp} (h_is_car : DFn P w K mg base 3 G.f_is_car G.fd_is_car ["value"] sp_is_car) (h_steps_in : DFn P w K mg base kk G.f_steps_in G.fd_steps_in ["value", "depth"] sp_steps_in) (h_in_range : DFn P w K mg base 2 G.f_in_range G.fd_in_range ["value", "low", "high"] sp_in_range) (cdv : Value) (A : Around) (outer : List Env) (s : Shared) (H : Hp) (E : XK) (hr : Room kk (A.deeper (envOfC "steps_in" (defScope s_steps_in) s.heap.objs.size G.f_steps_in cdv))) (hgd : A.guards = some []) :
    DSs (ctxD P w K mg base nm_steps_in "steps_in" (defScope s_steps_in) G.f_steps_in cdv A outer s H E) (defBody s_steps_in) (t_steps_in P w K sp_is_car sp_steps_in sp_in_range) :=
  have S := sc_steps_in
  (dss_cons (ds_if (DW.t (dw_or (dt_cmp (od_eqX (room_u hr)) (dv 1) de_int) (dw_or (dt_not (dt_val (de_cb cd_isi (by rfl) G.z_isinstance boot_isinstance (da_cons (dv 0) (da_cons (de_braw (v := .ty "tuple") (by rfl) G.z_tuple boot_tuple rfl) da_nil))))) (dw_or1 (dt_not (dt_chain od_le od_le de_int (de_cb cd_lenA (by rfl) G.z_len boot_len (da_cons (dv 0) da_nil)) (de_gintE (by rfl) G.c_MOST_STEPS))))))) (dss_one (ds_retW de_non)) dss_nil)
    (dss_cons (ds_set (i := 2) S.nd rfl (by first | exact .inl rfl | exact .inr rfl) (de_cb cd_lenA (by rfl) G.z_len boot_len (da_cons (dv 0) da_nil)))
    (dss_cons (ds_for PassesOwn.never rfl (di_any (dv 0)) (dg_name (i := 3) S.nd rfl (by first | exact .inl rfl | exact .inr rfl))
    (dss_one (ds_if (dt_not (dt_val (de_callX h_is_car (hr.mono (by omega)) hgd (by rfl) G.g_is_car G.F_is_car.kp G.b_is_car .nil (fun _ _ => .nil) (da_cons (dv 3) da_nil)))) (dss_cons (ds_if (DW.t (dw_or (dt_not (dt_val (de_cb cd_isi (by rfl) G.z_isinstance boot_isinstance (da_cons (dv 3) (da_cons (de_braw (v := .ty "tuple") (by rfl) G.z_tuple boot_tuple rfl) da_nil))))) (dw_or (dt_cmp (od_neX (room_u hr)) (de_cb cd_lenA (by rfl) G.z_len boot_len (da_cons (dv 3) da_nil)) de_int) (dw_or1 (dt_not (dt_val (de_callX h_in_range (hr.mono (by omega)) hgd (by rfl) G.g_in_range G.F_in_range.kp G.b_in_range .nil (fun _ _ => .nil) (da_cons (de_at (dv 3) de_int) (da_cons de_int (da_cons (de_gintE (by rfl) G.c_MOST_TIMES) da_nil)))))))))) (dss_one (ds_retW de_non)) dss_nil)
    (dss_cons (ds_set (i := 4) S.nd rfl (by first | exact .inl rfl | exact .inr rfl) (de_callX h_steps_in (hr.mono (by omega)) hgd (by rfl) G.g_steps_in G.F_steps_in.kp G.b_steps_in .nil (fun _ _ => .nil) (da_cons (de_at (dv 3) de_int) (da_cons (de_op od_sub (dv 1) de_int) da_nil))))
    (dss_cons (ds_if (dt_cmp od_isN (dv 4) de_non) (dss_one (ds_retW de_non)) dss_nil)
    (dss_one (ds_aug (i := 2) S.nd rfl (by first | exact .inl rfl | exact .inr rfl) (dv 4) ip_add))))) dss_nil)))
    (dss_one (ds_retW (dv 2))))))
theorem ok_steps_in (G : Top K mg) {kk : Nat} (hkk : 3 ≤ kk) {sp_is_car : DSp} {sp_steps_in : DSp} {sp_in_range : DSp} (h_is_car : DFn P w K mg base 3 G.f_is_car G.fd_is_car ["value"] sp_is_car) (h_steps_in : DFn P w K mg base kk G.f_steps_in G.fd_steps_in ["value", "depth"] sp_steps_in) (h_in_range : DFn P w K mg base 2 G.f_in_range G.fd_in_range ["value", "low", "high"] sp_in_range) {sp : DSp} (len : ∀ ds μ R, sp ds μ R → ds.length = 2)
    (go : ∀ ds μ R, sp ds μ R → t_steps_in P w K sp_is_car sp_steps_in sp_in_range { nx := fun S => R dN S.μ, rt := fun d S => R d S.μ } ⟨ds.map some ++ List.replicate (5 - ds.length) none, μ⟩) : DFn P w K mg base (kk + 1) G.f_steps_in G.fd_steps_in ["value", "depth"] sp :=
  dfn_len G.F_steps_in sc_steps_in len (fun cdv A outer s H E hr hgd => b_steps_in G hkk h_is_car h_steps_in h_in_range cdv A outer s H E hr hgd) go
def t_is_program (P : Program) (w : World) (K : PySem.W.Frag) (sp_steps_in : DSp) : DTS :=
  (dSeq (dAsg (dCallX sp_steps_in [] (dCons (dVar 0) (dCons (dC (dI 8)) dNil))) (dgName 1))
    (dRetW P w K (dAndV (dOp gNotN (dVar 1) (dC dN)) (dOp (gCmp fun i j => decide (i ≤ j)) (dVar 1) (dC (dI 200))))))
theorem b_is_program (G : Top K mg) {sp_steps_in : DSp} (h_steps_in : DFn P w K mg base 15 G.f_steps_in G.fd_steps_in ["value", "depth"] sp_steps_in) (cdv : Value) (A : Around) (outer : List Env) (s : Shared) (H : Hp) (E : XK) (hr : Room 15 (A.deeper (envOfC "is_program" (defScope s_is_program) s.heap.objs.size G.f_is_program cdv))) (hgd : A.guards = some []) :
    DSs (ctxD P w K mg base nm_is_program "is_program" (defScope s_is_program) G.f_is_program cdv A outer s H E) (defBody s_is_program) (t_is_program P w K sp_steps_in) :=
  have S := sc_is_program
  (dss_cons (ds_set (i := 1) S.nd rfl (by first | exact .inl rfl | exact .inr rfl) (de_callX h_steps_in (hr.mono (by omega)) hgd (by rfl) G.g_steps_in G.F_steps_in.kp G.b_steps_in .nil (fun _ _ => .nil) (da_cons (dv 0) (da_cons (de_gintE (by rfl) G.c_MOST_DEPTH) da_nil))))
    (dss_one (ds_retW (de_and (de_cmp od_notN (dv 1) de_non) (de_one (de_cmp od_le (dv 1) (de_gintE (by rfl) G.c_MOST_STEPS_IN_ALL)))))))
theorem ok_is_program (G : Top K mg) {sp_steps_in : DSp} (h_steps_in : DFn P w K mg base 15 G.f_steps_in G.fd_steps_in ["value", "depth"] sp_steps_in) {sp : DSp} (len : ∀ ds μ R, sp ds μ R → ds.length = 1)
    (go : ∀ ds μ R, sp ds μ R → t_is_program P w K sp_steps_in { nx := fun S => R dN S.μ, rt := fun d S => R d S.μ } ⟨ds.map some ++ List.replicate (2 - ds.length) none, μ⟩) : DFn P w K mg base 16 G.f_is_program G.fd_is_program ["value"] sp :=
  dfn_len G.F_is_program sc_is_program len (fun cdv A outer s H E hr hgd => b_is_program G h_steps_in cdv A outer s H E hr hgd) go
def t__law_deep (P : Program) (w : World) (K : PySem.W.Frag) : DTS :=
  (dSeq (dAsg (dTup (dCons (dC (dI 5)) dNil)) (dgName 1))
    (dSeq (dFor (diRange1 (dCons (dOp gSub (dVar 0) (dC (dI 1))) dNil)) (dgName 2)
    (dAsg (dTup (dCons (dTup (dCons (dC (dI 2)) (dCons (dVar 1) dNil))) (dCons (dC (dI 6)) dNil))) (dgName 1)))
    (dRetW P w K (dVar 1))))
theorem b__law_deep (G : Top K mg) (cdv : Value) (A : Around) (outer : List Env) (s : Shared) (H : Hp) (E : XK) (hr : Room 0 (A.deeper (envOfC "_law_deep" (defScope s__law_deep) s.heap.objs.size G.f__law_deep cdv))) (hgd : A.guards = some []) :
    DSs (ctxD P w K mg base nm__law_deep "_law_deep" (defScope s__law_deep) G.f__law_deep cdv A outer s H E) (defBody s__law_deep) (t__law_deep P w K) :=
  have S := sc__law_deep
  (dss_cons (ds_set (i := 1) S.nd rfl (by first | exact .inl rfl | exact .inr rfl) (de_tup (da_cons de_int da_nil)))
    (dss_cons (ds_for PassesOwn.never rfl (di_range1 (by rfl) G.z_range (da_cons (de_op od_sub (dv 0) de_int) da_nil)) (dg_name (i := 2) S.nd rfl (by first | exact .inl rfl | exact .inr rfl))
    (dss_one (ds_set (i := 1) S.nd rfl (by first | exact .inl rfl | exact .inr rfl) (de_tup (da_cons (de_tup (da_cons de_int (da_cons (dv 1) da_nil))) (da_cons de_int da_nil))))))
    (dss_one (ds_retW (dv 1)))))
theorem ok__law_deep (G : Top K mg) {sp : DSp} (len : ∀ ds μ R, sp ds μ R → ds.length = 1)
    (go : ∀ ds μ R, sp ds μ R → t__law_deep P w K { nx := fun S => R dN S.μ, rt := fun d S => R d S.μ } ⟨ds.map some ++ List.replicate (3 - ds.length) none, μ⟩) : DFn P w K mg base 1 G.f__law_deep G.fd__law_deep ["levels"] sp :=
  dfn_len G.F__law_deep sc__law_deep len (fun cdv A outer s H E hr hgd => b__law_deep G cdv A outer s H E hr hgd) go
def t__law_steps (P : Program) (w : World) (K : PySem.W.Frag) (sp__law_steps : DSp) : DTS :=
  (dSeq (dAsg (dLcX (diAny (dVar 0)) (dgName 1) (dTest (dCB gIsi (dCons (dVar 1) (dCons (dC (.raw (.ty "tuple"))) dNil)))) (dCallX sp__law_steps [] (dCons (dOp gAt (dVar 1) (dC (dI 1))) dNil)) [1]) (dgName 2))
    (dRetW P w K (dOp (gOr gAdd gAddC) (dCB gLenA (dCons (dVar 0) dNil)) (dCB gSum (dCons (dVar 2) dNil)))))
theorem b__law_steps (G : Top K mg) {kk : Nat} (hkk : 0 ≤ kk) {sp__law_steps : DSp} (h__law_steps : DFn P w K mg base kk G.f__law_steps G.fd__law_steps ["program_here"] sp__law_steps) (cdv : Value) (A : Around) (outer : List Env) (s : Shared) (H : Hp) (E : XK) (hr : Room kk (A.deeper (envOfC "_law_steps" (defScope s__law_steps) s.heap.objs.size G.f__law_steps cdv))) (hgd : A.guards = some []) :
    DSs (ctxD P w K mg base nm__law_steps "_law_steps" (defScope s__law_steps) G.f__law_steps cdv A outer s H E) (defBody s__law_steps) (t__law_steps P w K sp__law_steps) :=
  have S := sc__law_steps
  (dss_cons (ds_setLcX (i := 2) (hy := rfl) (hyl := rfl) (hsw := sw_true rfl rfl rfl (by decide +kernel)) (own := [("step", 1)]) (js := [1]) (hc := rfl) (hN := S.nd) (hi := (di_any (dv 0))) (ok := (blkOk_by (N := nm__law_steps) (sc := defScope s__law_steps) (by decide +kernel))) (blk := (fun _ _ _ _ _ => ⟨(dg_name (i := 1) S.nd rfl (by first | exact .inl rfl | exact .inr rfl)), (dts_one (dt_val (de_cb cd_isi (by rfl) G.z_isinstance boot_isinstance (da_cons (dv 1) (da_cons (de_braw (v := .ty "tuple") (by rfl) G.z_tuple boot_tuple rfl) da_nil))))), (de_callX h__law_steps (hr.mono (by omega)) hgd (by rfl) G.g__law_steps G.F__law_steps.kp G.b__law_steps .nil (fun _ _ => .nil) (da_cons (de_at (dv 1) de_int) da_nil))⟩)) (hj := by decide))
    (dss_one (ds_retW (de_op od_addX (de_cb cd_lenA (by rfl) G.z_len boot_len (da_cons (dv 0) da_nil)) (de_cb (cd_sum rfl) (by rfl) G.z_sum boot_sum (da_cons (dv 2) da_nil))))))
theorem ok__law_steps (G : Top K mg) {kk : Nat} (hkk : 0 ≤ kk) {sp__law_steps : DSp} (h__law_steps : DFn P w K mg base kk G.f__law_steps G.fd__law_steps ["program_here"] sp__law_steps) {sp : DSp} (len : ∀ ds μ R, sp ds μ R → ds.length = 1)
    (go : ∀ ds μ R, sp ds μ R → t__law_steps P w K sp__law_steps { nx := fun S => R dN S.μ, rt := fun d S => R d S.μ } ⟨ds.map some ++ List.replicate (3 - ds.length) none, μ⟩) : DFn P w K mg base (kk + 1) G.f__law_steps G.fd__law_steps ["program_here"] sp :=
  dfn_len G.F__law_steps sc__law_steps len (fun cdv A outer s H E hr hgd => b__law_steps G hkk h__law_steps cdv A outer s H E hr hgd) go
def t__law_depth (P : Program) (w : World) (K : PySem.W.Frag) (sp__law_depth : DSp) : DTS :=
  (dSeq (dAsg (dLcX (diAny (dVar 0)) (dgName 1) (dTest (dCB gIsi (dCons (dVar 1) (dCons (dC (.raw (.ty "tuple"))) dNil)))) (dCallX sp__law_depth [] (dCons (dOp gAt (dVar 1) (dC (dI 1))) dNil)) [1]) (dgName 2))
    (dRetW P w K (dOp (gOr gAdd gAddC) (dC (dI 1)) (dCB gMaxL (dCons (dOp (gOr gAdd gAddC) (dLstX (dCons (dC (dI 0)) dNil)) (dVar 2)) dNil)))))
theorem b__law_depth (G : Top K mg) {kk : Nat} (hkk : 0 ≤ kk) {sp__law_depth : DSp} (h__law_depth : DFn P w K mg base kk G.f__law_depth G.fd__law_depth ["program_here"] sp__law_depth) (cdv : Value) (A : Around) (outer : List Env) (s : Shared) (H : Hp) (E : XK) (hr : Room kk (A.deeper (envOfC "_law_depth" (defScope s__law_depth) s.heap.objs.size G.f__law_depth cdv))) (hgd : A.guards = some []) :
    DSs (ctxD P w K mg base nm__law_depth "_law_depth" (defScope s__law_depth) G.f__law_depth cdv A outer s H E) (defBody s__law_depth) (t__law_depth P w K sp__law_depth) :=
  have S := sc__law_depth
  (dss_cons (ds_setLcX (i := 2) (hy := rfl) (hyl := rfl) (hsw := sw_true rfl rfl rfl (by decide +kernel)) (own := [("step", 1)]) (js := [1]) (hc := rfl) (hN := S.nd) (hi := (di_any (dv 0))) (ok := (blkOk_by (N := nm__law_depth) (sc := defScope s__law_depth) (by decide +kernel))) (blk := (fun _ _ _ _ _ => ⟨(dg_name (i := 1) S.nd rfl (by first | exact .inl rfl | exact .inr rfl)), (dts_one (dt_val (de_cb cd_isi (by rfl) G.z_isinstance boot_isinstance (da_cons (dv 1) (da_cons (de_braw (v := .ty "tuple") (by rfl) G.z_tuple boot_tuple rfl) da_nil))))), (de_callX h__law_depth (hr.mono (by omega)) hgd (by rfl) G.g__law_depth G.F__law_depth.kp G.b__law_depth .nil (fun _ _ => .nil) (da_cons (de_at (dv 1) de_int) da_nil))⟩)) (hj := by decide))
    (dss_one (ds_retW (de_op od_addX de_int (de_cb (cd_maxL rfl) (by rfl) G.z_max boot_max (da_cons (de_op od_addX (de_lstX (da_cons de_int da_nil)) (dv 2)) da_nil))))))
theorem ok__law_depth (G : Top K mg) {kk : Nat} (hkk : 0 ≤ kk) {sp__law_depth : DSp} (h__law_depth : DFn P w K mg base kk G.f__law_depth G.fd__law_depth ["program_here"] sp__law_depth) {sp : DSp} (len : ∀ ds μ R, sp ds μ R → ds.length = 1)
    (go : ∀ ds μ R, sp ds μ R → t__law_depth P w K sp__law_depth { nx := fun S => R dN S.μ, rt := fun d S => R d S.μ } ⟨ds.map some ++ List.replicate (3 - ds.length) none, μ⟩) : DFn P w K mg base (kk + 1) G.f__law_depth G.fd__law_depth ["program_here"] sp :=
  dfn_len G.F__law_depth sc__law_depth len (fun cdv A outer s H E hr hgd => b__law_depth G hkk h__law_depth cdv A outer s H E hr hgd) go
def t__law_is_form (P : Program) (w : World) (K : PySem.W.Frag) (sp__law_is_form : DSp) : DTS :=
  (dSeq (dIfS (dOr (dNot (dTest (dCB gIsi (dCons (dVar 0) (dCons (dC (.raw (.ty "tuple"))) dNil))))) (dNot (dTest (dChain (gCmp fun i j => decide (i ≤ j)) (gCmp fun i j => decide (i ≤ j)) (dC (dI 1)) (dCB gLenA (dCons (dVar 0) dNil)) (dC (dI 60)))))) (dRetW P w K (dC (dB false))) dNext)
    (dSeq (dFor (diAny (dVar 0)) (dgName 1)
    (dIfS (dTest (dCB gIsi (dCons (dVar 1) (dCons (dC (.raw (.ty "tuple"))) dNil)))) (dSeq (dIfS (dOr (dTest (dOp gNeX (dCB gLenA (dCons (dVar 1) dNil)) (dC (dI 2)))) (dOr (dNot (dTest (dCB gIsi (dCons (dOp gAt (dVar 1) (dC (dI 0))) (dCons (dC (.raw (.ty "int"))) dNil))))) (dTest (dCB gIsi (dCons (dOp gAt (dVar 1) (dC (dI 0))) (dCons (dC (.raw (.ty "bool"))) dNil)))))) (dRetW P w K (dC (dB false))) dNext)
    (dIfS (dOr (dNot (dTest (dChain (gCmp fun i j => decide (i ≤ j)) (gCmp fun i j => decide (i ≤ j)) (dC (dI 1)) (dOp gAt (dVar 1) (dC (dI 0))) (dOp gPow (dC (dI 10)) (dC (dI 30)))))) (dNot (dTest (dCallX sp__law_is_form [] (dCons (dOp gAt (dVar 1) (dC (dI 1))) dNil))))) (dRetW P w K (dC (dB false))) dNext)) (dIfS (dOr (dNot (dTest (dCB gIsi (dCons (dVar 1) (dCons (dC (.raw (.ty "int"))) dNil))))) (dOr (dTest (dCB gIsi (dCons (dVar 1) (dCons (dC (.raw (.ty "bool"))) dNil)))) (dNot (dTest (dChain (gCmp fun i j => decide (i ≤ j)) (gCmp fun i j => decide (i ≤ j)) (dC (dI 0)) (dVar 1) (dC (dI 59))))))) (dRetW P w K (dC (dB false))) dNext)))
    (dRetW P w K (dC (dB true)))))
theorem b__law_is_form (G : Top K mg) {kk : Nat} (hkk : 0 ≤ kk) {sp__law_is_form : DSp} (h__law_is_form : DFn P w K mg base kk G.f__law_is_form G.fd__law_is_form ["value"] sp__law_is_form) (cdv : Value) (A : Around) (outer : List Env) (s : Shared) (H : Hp) (E : XK) (hr : Room kk (A.deeper (envOfC "_law_is_form" (defScope s__law_is_form) s.heap.objs.size G.f__law_is_form cdv))) (hgd : A.guards = some []) :
    DSs (ctxD P w K mg base nm__law_is_form "_law_is_form" (defScope s__law_is_form) G.f__law_is_form cdv A outer s H E) (defBody s__law_is_form) (t__law_is_form P w K sp__law_is_form) :=
  have S := sc__law_is_form
  (dss_cons (ds_if (DW.t (dw_or (dt_not (dt_val (de_cb cd_isi (by rfl) G.z_isinstance boot_isinstance (da_cons (dv 0) (da_cons (de_braw (v := .ty "tuple") (by rfl) G.z_tuple boot_tuple rfl) da_nil))))) (dw_or1 (dt_not (dt_chain od_le od_le de_int (de_cb cd_lenA (by rfl) G.z_len boot_len (da_cons (dv 0) da_nil)) de_int))))) (dss_one (ds_retW de_bl)) dss_nil)
    (dss_cons (ds_for PassesOwn.never rfl (di_any (dv 0)) (dg_name (i := 1) S.nd rfl (by first | exact .inl rfl | exact .inr rfl))
    (dss_one (ds_if (dt_val (de_cb cd_isi (by rfl) G.z_isinstance boot_isinstance (da_cons (dv 1) (da_cons (de_braw (v := .ty "tuple") (by rfl) G.z_tuple boot_tuple rfl) da_nil)))) (dss_cons (ds_if (DW.t (dw_or (dt_cmp (od_neX (room_u hr)) (de_cb cd_lenA (by rfl) G.z_len boot_len (da_cons (dv 1) da_nil)) de_int) (dw_or (dt_not (dt_val (de_cb cd_isi (by rfl) G.z_isinstance boot_isinstance (da_cons (de_at (dv 1) de_int) (da_cons (de_braw (v := .ty "int") (by rfl) G.z_int boot_int rfl) da_nil))))) (dw_or1 (dt_val (de_cb cd_isi (by rfl) G.z_isinstance boot_isinstance (da_cons (de_at (dv 1) de_int) (da_cons (de_braw (v := .ty "bool") (by rfl) G.z_bool boot_bool rfl) da_nil)))))))) (dss_one (ds_retW de_bl)) dss_nil)
    (dss_one (ds_if (DW.t (dw_or (dt_not (dt_chain od_le od_le de_int (de_at (dv 1) de_int) (de_op od_pow de_int de_int))) (dw_or1 (dt_not (dt_val (de_callX h__law_is_form (hr.mono (by omega)) hgd (by rfl) G.g__law_is_form G.F__law_is_form.kp G.b__law_is_form .nil (fun _ _ => .nil) (da_cons (de_at (dv 1) de_int) da_nil))))))) (dss_one (ds_retW de_bl)) dss_nil))) (dss_one (ds_if (DW.t (dw_or (dt_not (dt_val (de_cb cd_isi (by rfl) G.z_isinstance boot_isinstance (da_cons (dv 1) (da_cons (de_braw (v := .ty "int") (by rfl) G.z_int boot_int rfl) da_nil))))) (dw_or (dt_val (de_cb cd_isi (by rfl) G.z_isinstance boot_isinstance (da_cons (dv 1) (da_cons (de_braw (v := .ty "bool") (by rfl) G.z_bool boot_bool rfl) da_nil)))) (dw_or1 (dt_not (dt_chain od_le od_le de_int (dv 1) de_int)))))) (dss_one (ds_retW de_bl)) dss_nil)))))
    (dss_one (ds_retW de_bl))))
theorem ok__law_is_form (G : Top K mg) {kk : Nat} (hkk : 0 ≤ kk) {sp__law_is_form : DSp} (h__law_is_form : DFn P w K mg base kk G.f__law_is_form G.fd__law_is_form ["value"] sp__law_is_form) {sp : DSp} (len : ∀ ds μ R, sp ds μ R → ds.length = 1)
    (go : ∀ ds μ R, sp ds μ R → t__law_is_form P w K sp__law_is_form { nx := fun S => R dN S.μ, rt := fun d S => R d S.μ } ⟨ds.map some ++ List.replicate (2 - ds.length) none, μ⟩) : DFn P w K mg base (kk + 1) G.f__law_is_form G.fd__law_is_form ["value"] sp :=
  dfn_len G.F__law_is_form sc__law_is_form len (fun cdv A outer s H E hr hgd => b__law_is_form G hkk h__law_is_form cdv A outer s H E hr hgd) go
def t__law_due (P : Program) (w : World) (K : PySem.W.Frag) (sp__law_steps : DSp) (sp__law_depth : DSp) (sp__law_is_form : DSp) : DTS :=
  (dRetW P w K (dAndV (dCallX sp__law_is_form [] (dCons (dVar 0) dNil)) (dAndV (dOp (gCmp fun i j => decide (i ≤ j)) (dCallX sp__law_depth [] (dCons (dVar 0) dNil)) (dC (dI 8))) (dOp (gCmp fun i j => decide (i ≤ j)) (dCallX sp__law_steps [] (dCons (dVar 0) dNil)) (dC (dI 200))))))
theorem b__law_due (G : Top K mg) {sp__law_steps : DSp} {sp__law_depth : DSp} {sp__law_is_form : DSp} (h__law_steps : DFn P w K mg base 12 G.f__law_steps G.fd__law_steps ["program_here"] sp__law_steps) (h__law_depth : DFn P w K mg base 12 G.f__law_depth G.fd__law_depth ["program_here"] sp__law_depth) (h__law_is_form : DFn P w K mg base 12 G.f__law_is_form G.fd__law_is_form ["value"] sp__law_is_form) (cdv : Value) (A : Around) (outer : List Env) (s : Shared) (H : Hp) (E : XK) (hr : Room 12 (A.deeper (envOfC "_law_due" (defScope s__law_due) s.heap.objs.size G.f__law_due cdv))) (hgd : A.guards = some []) :
    DSs (ctxD P w K mg base nm__law_due "_law_due" (defScope s__law_due) G.f__law_due cdv A outer s H E) (defBody s__law_due) (t__law_due P w K sp__law_steps sp__law_depth sp__law_is_form) :=
  have S := sc__law_due
  (dss_one (ds_retW (de_and (de_callX h__law_is_form (hr.mono (by omega)) hgd (by rfl) G.g__law_is_form G.F__law_is_form.kp G.b__law_is_form .nil (fun _ _ => .nil) (da_cons (dv 0) da_nil)) (de_and (de_cmp od_le (de_callX h__law_depth (hr.mono (by omega)) hgd (by rfl) G.g__law_depth G.F__law_depth.kp G.b__law_depth .nil (fun _ _ => .nil) (da_cons (dv 0) da_nil)) de_int) (de_one (de_cmp od_le (de_callX h__law_steps (hr.mono (by omega)) hgd (by rfl) G.g__law_steps G.F__law_steps.kp G.b__law_steps .nil (fun _ _ => .nil) (da_cons (dv 0) da_nil)) de_int))))))
theorem ok__law_due (G : Top K mg) {sp__law_steps : DSp} {sp__law_depth : DSp} {sp__law_is_form : DSp} (h__law_steps : DFn P w K mg base 12 G.f__law_steps G.fd__law_steps ["program_here"] sp__law_steps) (h__law_depth : DFn P w K mg base 12 G.f__law_depth G.fd__law_depth ["program_here"] sp__law_depth) (h__law_is_form : DFn P w K mg base 12 G.f__law_is_form G.fd__law_is_form ["value"] sp__law_is_form) {sp : DSp} (len : ∀ ds μ R, sp ds μ R → ds.length = 1)
    (go : ∀ ds μ R, sp ds μ R → t__law_due P w K sp__law_steps sp__law_depth sp__law_is_form { nx := fun S => R dN S.μ, rt := fun d S => R d S.μ } ⟨ds.map some ++ List.replicate (1 - ds.length) none, μ⟩) : DFn P w K mg base 13 G.f__law_due G.fd__law_due ["value"] sp :=
  dfn_len G.F__law_due sc__law_due len (fun cdv A outer s H E hr hgd => b__law_due G h__law_steps h__law_depth h__law_is_form cdv A outer s H E hr hgd) go
def t__law_spoon (P : Program) (w : World) (K : PySem.W.Frag) : DTS :=
  (dSeq (dIfS (dTest (dOp (gCmp fun i j => decide (j < i)) (dOp gAt (dVar 0) (dC (dI 0))) (dC (dI 0)))) (dSeq (dAsg (dOp gMod (dOp gAt (dVar 0) (dC (dI 0))) (dVar 1)) (dgName 2))
    (dSeq (dPut (dOp gFdiv (dOp gAt (dVar 0) (dC (dI 0))) (dVar 1)) (dVar 0) (dC (dI 0)))
    (dRetW P w K (dVar 2)))) dNext)
    (dSeq (dPut (dOp (gOr gAdd gAddC) (dOp gAt (dVar 0) (dC (dI 2))) (dC (dI 1))) (dVar 0) (dC (dI 2)))
    (dSeq (dAsg (dOp gMod (dOp gPow (dOp (gOr gAdd gAddC) (dOp gAt (dVar 0) (dC (dI 1))) (dOp (gOr gMul gMulC) (dC (dI 160481183)) (dOp gAt (dVar 0) (dC (dI 2))))) (dC (dI 3))) (dOp (gOr gAdd gAddC) (dOp gPow (dC (dI 10)) (dC (dI 44))) (dC (dI 31)))) (dgName 3))
    (dSeq (dAsg (dOp gMod (dOp gPow (dOp (gOr gAdd gAddC) (dVar 3) (dOp (gOr gMul gMulC) (dC (dI 32452843)) (dOp gAt (dVar 0) (dC (dI 2))))) (dC (dI 3))) (dOp (gOr gAdd gAddC) (dOp gPow (dC (dI 10)) (dC (dI 41))) (dC (dI 37)))) (dgName 3))
    (dRetW P w K (dOp gMod (dOp gFdiv (dVar 3) (dC (dI 786433))) (dVar 1)))))))
theorem b__law_spoon (G : Top K mg) (cdv : Value) (A : Around) (outer : List Env) (s : Shared) (H : Hp) (E : XK) (hr : Room 0 (A.deeper (envOfC "_law_spoon" (defScope s__law_spoon) s.heap.objs.size G.f__law_spoon cdv))) (hgd : A.guards = some []) :
    DSs (ctxD P w K mg base nm__law_spoon "_law_spoon" (defScope s__law_spoon) G.f__law_spoon cdv A outer s H E) (defBody s__law_spoon) (t__law_spoon P w K) :=
  have S := sc__law_spoon
  (dss_cons (ds_if (dt_cmp od_gt (de_at (dv 0) de_int) de_int) (dss_cons (ds_set (i := 2) S.nd rfl (by first | exact .inl rfl | exact .inr rfl) (de_op od_mod (de_at (dv 0) de_int) (dv 1)))
    (dss_cons (ds_put (de_op od_fdiv (de_at (dv 0) de_int) (dv 1)) (dv 0) de_int)
    (dss_one (ds_retW (dv 2))))) dss_nil)
    (dss_cons (ds_put (de_op od_addX (de_at (dv 0) de_int) de_int) (dv 0) de_int)
    (dss_cons (ds_set (i := 3) S.nd rfl (by first | exact .inl rfl | exact .inr rfl) (de_op od_mod (de_op od_pow (de_op od_addX (de_at (dv 0) de_int) (de_op od_mulX de_int (de_at (dv 0) de_int))) de_int) (de_op od_addX (de_op od_pow de_int de_int) de_int)))
    (dss_cons (ds_set (i := 3) S.nd rfl (by first | exact .inl rfl | exact .inr rfl) (de_op od_mod (de_op od_pow (de_op od_addX (dv 3) (de_op od_mulX de_int (de_at (dv 0) de_int))) de_int) (de_op od_addX (de_op od_pow de_int de_int) de_int)))
    (dss_one (ds_retW (de_op od_mod (de_op od_fdiv (dv 3) de_int) (dv 1))))))))
theorem ok__law_spoon (G : Top K mg) {sp : DSp} (len : ∀ ds μ R, sp ds μ R → ds.length = 2)
    (go : ∀ ds μ R, sp ds μ R → t__law_spoon P w K { nx := fun S => R dN S.μ, rt := fun d S => R d S.μ } ⟨ds.map some ++ List.replicate (4 - ds.length) none, μ⟩) : DFn P w K mg base 1 G.f__law_spoon G.fd__law_spoon ["bowl", "many"] sp :=
  dfn_len G.F__law_spoon sc__law_spoon len (fun cdv A outer s H E hr hgd => b__law_spoon G cdv A outer s H E hr hgd) go
def t__law_changed (P : Program) (w : World) (K : PySem.W.Frag) (sp__law_spoon : DSp) (sp__law_changed : DSp) : DTS :=
  (dSeq (dAsg (dCallX sp__law_spoon [] (dCons (dVar 0) (dCons (dCB gLenA (dCons (dVar 1) dNil)) dNil))) (dgName 2))
    (dSeq (dAsg (dOp gAt (dVar 1) (dVar 2)) (dgName 3))
    (dSeq (dIfS (dAnd (dTest (dCB gIsi (dCons (dVar 3) (dCons (dC (.raw (.ty "tuple"))) dNil)))) (dTest (dOp (gCmp fun i j => decide (j < i)) (dCallX sp__law_spoon [] (dCons (dVar 0) (dCons (dC (dI 4)) dNil))) (dC (dI 0))))) (dRetW P w K (dOp (gOr gAdd gAddC) (dOp (gOr gAdd gAddC) (dSl (dVar 1) dNoPart (dPart (dVar 2))) (dTup (dCons (dTup (dCons (dOp gAt (dVar 3) (dC (dI 0))) (dCons (dCallX sp__law_changed [] (dCons (dVar 0) (dCons (dOp gAt (dVar 3) (dC (dI 1))) dNil))) dNil))) dNil))) (dSl (dVar 1) (dPart (dOp (gOr gAdd gAddC) (dVar 2) (dC (dI 1)))) dNoPart))) dNext)
    (dSeq (dAsg (dLstX (dCons (dC dN) (dCons (dC (dB true)) (dCons (dC (dB false)) (dCons (dC (dS "0")) (dCons (dC (dS "")) (dCons (dC (dI 60)) (dCons (dC (dI 61)) (dCons (dUn gNeg (dC (dI 1))) (dCons (dUn gNeg (dC (dI 2))) (dCons (dOp gPow (dC (dI 10)) (dC (dI 30))) (dCons (dLstX (dCons (dC (dI 0)) dNil)) (dCons dNewDO (dCons (dTup dNil) (dCons (dTup (dCons (dC (dI 0)) dNil)) (dCons (dTup (dCons (dC (dI 1)) (dCons (dTup dNil) dNil))) (dCons (dTup (dCons (dC (dI 0)) (dCons (dTup (dCons (dC (dI 1)) dNil)) dNil))) (dCons (dTup (dCons (dUn gNeg (dC (dI 1))) (dCons (dTup (dCons (dC (dI 1)) dNil)) dNil))) dNil)))))))))))))))))) (dgName 4))
    (dSeq (dAsg (dOp (gOr gAdd gAddC) (dVar 4) (dLstX (dCons (dTup (dCons (dC (dB true)) (dCons (dTup (dCons (dC (dI 1)) dNil)) dNil))) (dCons (dTup (dCons (dC dN) (dCons (dTup (dCons (dC (dI 1)) dNil)) dNil))) (dCons (dTup (dCons (dLstX (dCons (dC (dI 1)) dNil)) (dCons (dTup (dCons (dC (dI 1)) dNil)) dNil))) (dCons (dTup (dCons dNewDO (dCons (dTup (dCons (dC (dI 1)) dNil)) dNil))) dNil)))))) (dgName 4))
    (dSeq (dAsg (dOp (gOr gAdd gAddC) (dVar 4) (dLstX (dCons (dTup (dCons (dC (dS "2")) (dCons (dTup (dCons (dC (dI 1)) dNil)) dNil))) (dCons (dTup (dCons (dC (dI 2)) (dCons (dC (dI 1)) dNil))) (dCons (dTup (dCons (dC (dI 2)) (dCons (dLstX (dCons (dC (dI 1)) dNil)) dNil))) (dCons (dTup (dCons (dC (dI 2)) (dCons (dTup (dCons (dC (dI 1)) dNil)) (dCons (dC (dI 3)) dNil)))) (dCons (dTup (dCons (dOp (gOr gAdd gAddC) (dOp gPow (dC (dI 10)) (dC (dI 30))) (dC (dI 1))) (dCons (dTup (dCons (dC (dI 1)) dNil)) dNil))) (dCons (dTup (dCons (dC (dI 2)) (dCons (dTup (dCons (dC (dI 60)) dNil)) dNil))) (dCons (dTup (dCons (dC (dI 0)) (dCons (dC (dI 1)) dNil))) dNil))))))))) (dgName 4))
    (dSeq (dAsg (dOp (gOr gAdd gAddC) (dVar 4) (dLstX (dCons (dTup (dCons (dOp gPow (dC (dI 10)) (dC (dI 30))) (dCons (dTup (dCons (dC (dI 59)) dNil)) dNil))) (dCons (dTup (dCons (dC (dI 1)) (dCons (dTup (dCons (dTup (dCons (dC (dI 1)) (dCons (dTup (dCons (dC (dI 1)) dNil)) dNil))) dNil)) dNil))) (dCons (dC (dI 0)) (dCons (dC (dI 59)) (dCons (dLstX (dCons (dC (dI 2)) (dCons (dTup (dCons (dC (dI 1)) dNil)) dNil))) (dCons (dTup (dCons (dTup (dCons (dC (dI 2)) (dCons (dTup (dCons (dC (dI 1)) dNil)) dNil))) dNil)) (dCons (dTup (dCons (dTup (dCons (dC (dI 1)) dNil)) (dCons (dC (dI 2)) dNil))) (dCons (dTup (dCons (dC (dI 2)) (dCons (dTup (dCons (dC (dI 1)) (dCons (dTup (dCons (dC (dI 3)) dNil)) dNil))) dNil))) dNil)))))))))) (dgName 4))
    (dRetW P w K (dOp (gOr gAdd gAddC) (dOp (gOr gAdd gAddC) (dSl (dVar 1) dNoPart (dPart (dVar 2))) (dTup (dCons (dOp gAt (dVar 4) (dCallX sp__law_spoon [] (dCons (dVar 0) (dCons (dCB gLenA (dCons (dVar 4) dNil)) dNil)))) dNil))) (dSl (dVar 1) (dPart (dOp (gOr gAdd gAddC) (dVar 2) (dC (dI 1)))) dNoPart))))))))))
theorem b__law_changed (G : Top K mg) {kk : Nat} (hkk : 1 ≤ kk) {sp__law_spoon : DSp} {sp__law_changed : DSp} (h__law_spoon : DFn P w K mg base 1 G.f__law_spoon G.fd__law_spoon ["bowl", "many"] sp__law_spoon) (h__law_changed : DFn P w K mg base kk G.f__law_changed G.fd__law_changed ["bowl", "program_here"] sp__law_changed) (cdv : Value) (A : Around) (outer : List Env) (s : Shared) (H : Hp) (E : XK) (hr : Room kk (A.deeper (envOfC "_law_changed" (defScope s__law_changed) s.heap.objs.size G.f__law_changed cdv))) (hgd : A.guards = some []) :
    DSs (ctxD P w K mg base nm__law_changed "_law_changed" (defScope s__law_changed) G.f__law_changed cdv A outer s H E) (defBody s__law_changed) (t__law_changed P w K sp__law_spoon sp__law_changed) :=
  have S := sc__law_changed
  (dss_cons (ds_set (i := 2) S.nd rfl (by first | exact .inl rfl | exact .inr rfl) (de_callX h__law_spoon (hr.mono (by omega)) hgd (by rfl) G.g__law_spoon G.F__law_spoon.kp G.b__law_spoon .nil (fun _ _ => .nil) (da_cons (dv 0) (da_cons (de_cb cd_lenA (by rfl) G.z_len boot_len (da_cons (dv 1) da_nil)) da_nil))))
    (dss_cons (ds_set (i := 3) S.nd rfl (by first | exact .inl rfl | exact .inr rfl) (de_at (dv 1) (dv 2)))
    (dss_cons (ds_if (DW.t (dw_and (dt_val (de_cb cd_isi (by rfl) G.z_isinstance boot_isinstance (da_cons (dv 3) (da_cons (de_braw (v := .ty "tuple") (by rfl) G.z_tuple boot_tuple rfl) da_nil)))) (dw_and1 (dt_cmp od_gt (de_callX h__law_spoon (hr.mono (by omega)) hgd (by rfl) G.g__law_spoon G.F__law_spoon.kp G.b__law_spoon .nil (fun _ _ => .nil) (da_cons (dv 0) (da_cons de_int da_nil))) de_int)))) (dss_one (ds_retW (de_op od_addX (de_op od_addX (de_sl (dv 1) do_none (do_some (dv 2))) (de_tup (da_cons (de_tup (da_cons (de_at (dv 3) de_int) (da_cons (de_callX h__law_changed (hr.mono (by omega)) hgd (by rfl) G.g__law_changed G.F__law_changed.kp G.b__law_changed .nil (fun _ _ => .nil) (da_cons (dv 0) (da_cons (de_at (dv 3) de_int) da_nil))) da_nil))) da_nil))) (de_sl (dv 1) (do_some (de_op od_addX (dv 2) de_int)) do_none)))) dss_nil)
    (dss_cons (ds_set (i := 4) S.nd rfl (by first | exact .inl rfl | exact .inr rfl) (de_lstX (da_cons de_non (da_cons de_bl (da_cons de_bl (da_cons de_str (da_cons de_str (da_cons de_int (da_cons de_int (da_cons (de_un ud_neg de_int) (da_cons (de_un ud_neg de_int) (da_cons (de_op od_pow de_int de_int) (da_cons (de_lstX (da_cons de_int da_nil)) (da_cons de_newDO (da_cons (de_tup da_nil) (da_cons (de_tup (da_cons de_int da_nil)) (da_cons (de_tup (da_cons de_int (da_cons (de_tup da_nil) da_nil))) (da_cons (de_tup (da_cons de_int (da_cons (de_tup (da_cons de_int da_nil)) da_nil))) (da_cons (de_tup (da_cons (de_un ud_neg de_int) (da_cons (de_tup (da_cons de_int da_nil)) da_nil))) da_nil)))))))))))))))))))
    (dss_cons (ds_set (i := 4) S.nd rfl (by first | exact .inl rfl | exact .inr rfl) (de_op od_addX (dv 4) (de_lstX (da_cons (de_tup (da_cons de_bl (da_cons (de_tup (da_cons de_int da_nil)) da_nil))) (da_cons (de_tup (da_cons de_non (da_cons (de_tup (da_cons de_int da_nil)) da_nil))) (da_cons (de_tup (da_cons (de_lstX (da_cons de_int da_nil)) (da_cons (de_tup (da_cons de_int da_nil)) da_nil))) (da_cons (de_tup (da_cons de_newDO (da_cons (de_tup (da_cons de_int da_nil)) da_nil))) da_nil)))))))
    (dss_cons (ds_set (i := 4) S.nd rfl (by first | exact .inl rfl | exact .inr rfl) (de_op od_addX (dv 4) (de_lstX (da_cons (de_tup (da_cons de_str (da_cons (de_tup (da_cons de_int da_nil)) da_nil))) (da_cons (de_tup (da_cons de_int (da_cons de_int da_nil))) (da_cons (de_tup (da_cons de_int (da_cons (de_lstX (da_cons de_int da_nil)) da_nil))) (da_cons (de_tup (da_cons de_int (da_cons (de_tup (da_cons de_int da_nil)) (da_cons de_int da_nil)))) (da_cons (de_tup (da_cons (de_op od_addX (de_op od_pow de_int de_int) de_int) (da_cons (de_tup (da_cons de_int da_nil)) da_nil))) (da_cons (de_tup (da_cons de_int (da_cons (de_tup (da_cons de_int da_nil)) da_nil))) (da_cons (de_tup (da_cons de_int (da_cons de_int da_nil))) da_nil))))))))))
    (dss_cons (ds_set (i := 4) S.nd rfl (by first | exact .inl rfl | exact .inr rfl) (de_op od_addX (dv 4) (de_lstX (da_cons (de_tup (da_cons (de_op od_pow de_int de_int) (da_cons (de_tup (da_cons de_int da_nil)) da_nil))) (da_cons (de_tup (da_cons de_int (da_cons (de_tup (da_cons (de_tup (da_cons de_int (da_cons (de_tup (da_cons de_int da_nil)) da_nil))) da_nil)) da_nil))) (da_cons de_int (da_cons de_int (da_cons (de_lstX (da_cons de_int (da_cons (de_tup (da_cons de_int da_nil)) da_nil))) (da_cons (de_tup (da_cons (de_tup (da_cons de_int (da_cons (de_tup (da_cons de_int da_nil)) da_nil))) da_nil)) (da_cons (de_tup (da_cons (de_tup (da_cons de_int da_nil)) (da_cons de_int da_nil))) (da_cons (de_tup (da_cons de_int (da_cons (de_tup (da_cons de_int (da_cons (de_tup (da_cons de_int da_nil)) da_nil))) da_nil))) da_nil)))))))))))
    (dss_one (ds_retW (de_op od_addX (de_op od_addX (de_sl (dv 1) do_none (do_some (dv 2))) (de_tup (da_cons (de_at (dv 4) (de_callX h__law_spoon (hr.mono (by omega)) hgd (by rfl) G.g__law_spoon G.F__law_spoon.kp G.b__law_spoon .nil (fun _ _ => .nil) (da_cons (dv 0) (da_cons (de_cb cd_lenA (by rfl) G.z_len boot_len (da_cons (dv 4) da_nil)) da_nil)))) da_nil))) (de_sl (dv 1) (do_some (de_op od_addX (dv 2) de_int)) do_none)))))))))))
theorem ok__law_changed (G : Top K mg) {kk : Nat} (hkk : 1 ≤ kk) {sp__law_spoon : DSp} {sp__law_changed : DSp} (h__law_spoon : DFn P w K mg base 1 G.f__law_spoon G.fd__law_spoon ["bowl", "many"] sp__law_spoon) (h__law_changed : DFn P w K mg base kk G.f__law_changed G.fd__law_changed ["bowl", "program_here"] sp__law_changed) {sp : DSp} (len : ∀ ds μ R, sp ds μ R → ds.length = 2)
    (go : ∀ ds μ R, sp ds μ R → t__law_changed P w K sp__law_spoon sp__law_changed { nx := fun S => R dN S.μ, rt := fun d S => R d S.μ } ⟨ds.map some ++ List.replicate (5 - ds.length) none, μ⟩) : DFn P w K mg base (kk + 1) G.f__law_changed G.fd__law_changed ["bowl", "program_here"] sp :=
  dfn_len G.F__law_changed sc__law_changed len (fun cdv A outer s H E hr hgd => b__law_changed G hkk h__law_spoon h__law_changed cdv A outer s H E hr hgd) go
def t__law_program (P : Program) (w : World) (K : PySem.W.Frag) (sp__law_spoon : DSp) (sp__law_program : DSp) : DTS :=
  (dSeq (dAsg (dLstX dNil) (dgName 6))
    (dSeq (dFor (diRange1 (dCons (dOp gAt (dLstX (dCons (dOp (gOr gAdd gAddC) (dC (dI 1)) (dCallX sp__law_spoon [] (dCons (dVar 0) (dCons (dVar 3) dNil)))) (dCons (dOp (gOr gAdd gAddC) (dC (dI 1)) (dCallX sp__law_spoon [] (dCons (dVar 0) (dCons (dCB (gII2 fun i j => if j < i then j else i) (dCons (dVar 3) (dCons (dC (dI 3)) dNil))) dNil)))) (dCons (dVar 3) dNil)))) (dCallX sp__law_spoon [] (dCons (dVar 0) (dCons (dC (dI 3)) dNil)))) dNil)) (dgName 7)
    (dIfS (dOr (dTest (dOp gEqX (dVar 7) (dC (dI 0)))) (dTest (dOp (gCmp fun i j => decide (j < i)) (dOp gAt (dVar 5) (dC (dI 0))) (dC (dI 0))))) (dSeq (dPut (dOp gSub (dOp gAt (dVar 5) (dC (dI 0))) (dC (dI 1))) (dVar 5) (dC (dI 0)))
    (dIfS (dAnd (dTest (dOp (gCmp fun i j => decide (j < i)) (dVar 2) (dC (dI 1)))) (dAnd (dTest (dOp (gCmp fun i j => decide (j < i)) (dOp gAt (dVar 5) (dC (dI 0))) (dC (dI 0)))) (dTest (dOp gEqX (dCallX sp__law_spoon [] (dCons (dVar 0) (dCons (dC (dI 3)) dNil))) (dC (dI 0)))))) (dSeq (dAsg (dOp gAt (dLstX (dCons (dOp (gOr gAdd gAddC) (dC (dI 1)) (dCallX sp__law_spoon [] (dCons (dVar 0) (dCons (dC (dI 4)) dNil)))) (dCons (dOp (gOr gAdd gAddC) (dC (dI 1)) (dCallX sp__law_spoon [] (dCons (dVar 0) (dCons (dVar 4) dNil)))) (dCons (dVar 4) dNil)))) (dCallX sp__law_spoon [] (dCons (dVar 0) (dCons (dC (dI 3)) dNil)))) (dgName 8))
    (dDrop (dBM "list" gAppend (dVar 6) (dCons (dTup (dCons (dVar 8) (dCons (dCallX sp__law_program [] (dCons (dVar 0) (dCons (dVar 1) (dCons (dOp gSub (dVar 2) (dC (dI 1))) (dCons (dCB (gII2 fun i j => if j > i then j else i) (dCons (dC (dI 1)) (dCons (dOp gFdiv (dVar 3) (dC (dI 2))) dNil))) (dCons (dVar 4) (dCons (dVar 5) dNil))))))) dNil))) dNil)))) (dDrop (dBM "list" gAppend (dVar 6) (dCons (dOp gAt (dVar 1) (dCallX sp__law_spoon [] (dCons (dVar 0) (dCons (dCB gLenA (dCons (dVar 1) dNil)) dNil)))) dNil))))) dNext))
    (dRetW P w K (dCB gTupOf (dCons (dVar 6) dNil)))))
theorem b__law_program (G : Top K mg) {kk : Nat} (hkk : 1 ≤ kk) {sp__law_spoon : DSp} {sp__law_program : DSp} (h__law_spoon : DFn P w K mg base 1 G.f__law_spoon G.fd__law_spoon ["bowl", "many"] sp__law_spoon) (h__law_program : DFn P w K mg base kk G.f__law_program G.fd__law_program ["bowl", "cars", "levels", "most", "wide", "left"] sp__law_program) (cdv : Value) (A : Around) (outer : List Env) (s : Shared) (H : Hp) (E : XK) (hr : Room kk (A.deeper (envOfC "_law_program" (defScope s__law_program) s.heap.objs.size G.f__law_program cdv))) (hgd : A.guards = some []) :
    DSs (ctxD P w K mg base nm__law_program "_law_program" (defScope s__law_program) G.f__law_program cdv A outer s H E) (defBody s__law_program) (t__law_program P w K sp__law_spoon sp__law_program) :=
  have S := sc__law_program
  (dss_cons (ds_set (i := 6) S.nd rfl (by first | exact .inl rfl | exact .inr rfl) (de_lstX da_nil))
    (dss_cons (ds_for PassesOwn.never rfl (di_range1 (by rfl) G.z_range (da_cons (de_at (de_lstX (da_cons (de_op od_addX de_int (de_callX h__law_spoon (hr.mono (by omega)) hgd (by rfl) G.g__law_spoon G.F__law_spoon.kp G.b__law_spoon .nil (fun _ _ => .nil) (da_cons (dv 0) (da_cons (dv 3) da_nil)))) (da_cons (de_op od_addX de_int (de_callX h__law_spoon (hr.mono (by omega)) hgd (by rfl) G.g__law_spoon G.F__law_spoon.kp G.b__law_spoon .nil (fun _ _ => .nil) (da_cons (dv 0) (da_cons (de_cb (cd_min2 rfl) (by rfl) G.z_min boot_min (da_cons (dv 3) (da_cons de_int da_nil))) da_nil)))) (da_cons (dv 3) da_nil)))) (de_callX h__law_spoon (hr.mono (by omega)) hgd (by rfl) G.g__law_spoon G.F__law_spoon.kp G.b__law_spoon .nil (fun _ _ => .nil) (da_cons (dv 0) (da_cons de_int da_nil)))) da_nil)) (dg_name (i := 7) S.nd rfl (by first | exact .inl rfl | exact .inr rfl))
    (dss_one (ds_if (DW.t (dw_or (dt_cmp (od_eqX (room_u hr)) (dv 7) de_int) (dw_or1 (dt_cmp od_gt (de_at (dv 5) de_int) de_int)))) (dss_cons (ds_put (de_op od_sub (de_at (dv 5) de_int) de_int) (dv 5) de_int)
    (dss_one (ds_if (DW.t (dw_and (dt_cmp od_gt (dv 2) de_int) (dw_and (dt_cmp od_gt (de_at (dv 5) de_int) de_int) (dw_and1 (dt_cmp (od_eqX (room_u hr)) (de_callX h__law_spoon (hr.mono (by omega)) hgd (by rfl) G.g__law_spoon G.F__law_spoon.kp G.b__law_spoon .nil (fun _ _ => .nil) (da_cons (dv 0) (da_cons de_int da_nil))) de_int))))) (dss_cons (ds_set (i := 8) S.nd rfl (by first | exact .inl rfl | exact .inr rfl) (de_at (de_lstX (da_cons (de_op od_addX de_int (de_callX h__law_spoon (hr.mono (by omega)) hgd (by rfl) G.g__law_spoon G.F__law_spoon.kp G.b__law_spoon .nil (fun _ _ => .nil) (da_cons (dv 0) (da_cons de_int da_nil)))) (da_cons (de_op od_addX de_int (de_callX h__law_spoon (hr.mono (by omega)) hgd (by rfl) G.g__law_spoon G.F__law_spoon.kp G.b__law_spoon .nil (fun _ _ => .nil) (da_cons (dv 0) (da_cons (dv 4) da_nil)))) (da_cons (dv 4) da_nil)))) (de_callX h__law_spoon (hr.mono (by omega)) hgd (by rfl) G.g__law_spoon G.F__law_spoon.kp G.b__law_spoon .nil (fun _ _ => .nil) (da_cons (dv 0) (da_cons de_int da_nil)))))
    (dss_one (ds_expr (de_bm md_append (dv 6) (da_cons (de_tup (da_cons (dv 8) (da_cons (de_callX h__law_program (hr.mono (by omega)) hgd (by rfl) G.g__law_program G.F__law_program.kp G.b__law_program .nil (fun _ _ => .nil) (da_cons (dv 0) (da_cons (dv 1) (da_cons (de_op od_sub (dv 2) de_int) (da_cons (de_cb (cd_max2 rfl) (by rfl) G.z_max boot_max (da_cons de_int (da_cons (de_op od_fdiv (dv 3) de_int) da_nil))) (da_cons (dv 4) (da_cons (dv 5) da_nil))))))) da_nil))) da_nil) PySem.F.plainAttrs_list PySem.F.slot_list_append PySem.F.type_list_append)))) (dss_one (ds_expr (de_bm md_append (dv 6) (da_cons (de_at (dv 1) (de_callX h__law_spoon (hr.mono (by omega)) hgd (by rfl) G.g__law_spoon G.F__law_spoon.kp G.b__law_spoon .nil (fun _ _ => .nil) (da_cons (dv 0) (da_cons (de_cb cd_lenA (by rfl) G.z_len boot_len (da_cons (dv 1) da_nil)) da_nil)))) da_nil) PySem.F.plainAttrs_list PySem.F.slot_list_append PySem.F.type_list_append)))))) dss_nil)))
    (dss_one (ds_retW (de_ct cd_tup (by rfl) G.z_tuple boot_tuple (da_cons (dv 6) da_nil))))))
theorem ok__law_program (G : Top K mg) {kk : Nat} (hkk : 1 ≤ kk) {sp__law_spoon : DSp} {sp__law_program : DSp} (h__law_spoon : DFn P w K mg base 1 G.f__law_spoon G.fd__law_spoon ["bowl", "many"] sp__law_spoon) (h__law_program : DFn P w K mg base kk G.f__law_program G.fd__law_program ["bowl", "cars", "levels", "most", "wide", "left"] sp__law_program) {sp : DSp} (len : ∀ ds μ R, sp ds μ R → ds.length = 6)
    (go : ∀ ds μ R, sp ds μ R → t__law_program P w K sp__law_spoon sp__law_program { nx := fun S => R dN S.μ, rt := fun d S => R d S.μ } ⟨ds.map some ++ List.replicate (9 - ds.length) none, μ⟩) : DFn P w K mg base (kk + 1) G.f__law_program G.fd__law_program ["bowl", "cars", "levels", "most", "wide", "left"] sp :=
  dfn_len G.F__law_program sc__law_program len (fun cdv A outer s H E hr hgd => b__law_program G hkk h__law_spoon h__law_program cdv A outer s H E hr hgd) go
def t__law_shuffled (P : Program) (w : World) (K : PySem.W.Frag) (sp__law_spoon : DSp) : DTS :=
  (dSeq (dAsg (dCB gListOf (dCons (dVar 1) dNil)) (dgName 2))
    (dRetW P w K (dLcX (diRange1 (dCons (dCB gLenA (dCons (dVar 2) dNil)) dNil)) (dgName 3) dYes (dBM "list" gPopAt (dVar 2) (dCons (dCallX sp__law_spoon [] (dCons (dVar 0) (dCons (dCB gLenA (dCons (dVar 2) dNil)) dNil))) dNil)) [3])))
theorem b__law_shuffled (G : Top K mg) {sp__law_spoon : DSp} (h__law_spoon : DFn P w K mg base 1 G.f__law_spoon G.fd__law_spoon ["bowl", "many"] sp__law_spoon) (cdv : Value) (A : Around) (outer : List Env) (s : Shared) (H : Hp) (E : XK) (hr : Room 1 (A.deeper (envOfC "_law_shuffled" (defScope s__law_shuffled) s.heap.objs.size G.f__law_shuffled cdv))) (hgd : A.guards = some []) :
    DSs (ctxD P w K mg base nm__law_shuffled "_law_shuffled" (defScope s__law_shuffled) G.f__law_shuffled cdv A outer s H E) (defBody s__law_shuffled) (t__law_shuffled P w K sp__law_spoon) :=
  have S := sc__law_shuffled
  (dss_cons (ds_set (i := 2) S.nd rfl (by first | exact .inl rfl | exact .inr rfl) (de_ct cd_list (by rfl) G.z_list boot_list (da_cons (dv 1) da_nil)))
    (dss_one (ds_retW (de_lcX (own := [("turn", 3)]) (js := [3]) rfl S.nd (di_range1 (by rfl) G.z_range (da_cons (de_cb cd_lenA (by rfl) G.z_len boot_len (da_cons (dv 2) da_nil)) da_nil)) (blkOk_by (N := nm__law_shuffled) (sc := defScope s__law_shuffled) (by decide +kernel)) (fun _ _ _ _ _ => ⟨(dg_name (i := 3) S.nd rfl (by first | exact .inl rfl | exact .inr rfl)), dts_nil, (de_bm md_popAt (dv 2) (da_cons (de_callX h__law_spoon (hr.mono (by omega)) hgd (by rfl) G.g__law_spoon G.F__law_spoon.kp G.b__law_spoon .nil (fun _ _ => .nil) (da_cons (dv 0) (da_cons (de_cb cd_lenA (by rfl) G.z_len boot_len (da_cons (dv 2) da_nil)) da_nil))) da_nil) PySem.F.plainAttrs_list PySem.F.slot_list_pop PySem.F.type_list_pop)⟩) (by decide)))))
theorem ok__law_shuffled (G : Top K mg) {sp__law_spoon : DSp} (h__law_spoon : DFn P w K mg base 1 G.f__law_spoon G.fd__law_spoon ["bowl", "many"] sp__law_spoon) {sp : DSp} (len : ∀ ds μ R, sp ds μ R → ds.length = 2)
    (go : ∀ ds μ R, sp ds μ R → t__law_shuffled P w K sp__law_spoon { nx := fun S => R dN S.μ, rt := fun d S => R d S.μ } ⟨ds.map some ++ List.replicate (4 - ds.length) none, μ⟩) : DFn P w K mg base 2 G.f__law_shuffled G.fd__law_shuffled ["bowl", "items"] sp :=
  dfn_len G.F__law_shuffled sc__law_shuffled len (fun cdv A outer s H E hr hgd => b__law_shuffled G h__law_spoon cdv A outer s H E hr hgd) go
def t__law_bowl (P : Program) (w : World) (K : PySem.W.Frag) : DTS :=
  (dSeq (dAsg (dIf (dTest (dOp (gCmp fun i j => decide (i < j)) (dVar 1) (dCB gLenA (dCons (dVar 0) dNil)))) (dOp gAt (dVar 0) (dVar 1)) (dC (dI 0))) (dgName 2))
    (dRetW P w K (dLstX (dCons (dCB (gII2 fun i j => if j > i then j else i) (dCons (dC (dI 0)) (dCons (dOp gSub (dVar 2) (dOp gPow (dC (dI 10)) (dC (dI 18)))) dNil))) (dCons (dOp (gOr gAdd gAddC) (dOp (gOr gMul gMulC) (dOp gMod (dVar 2) (dOp (gOr gAdd gAddC) (dOp gPow (dC (dI 10)) (dC (dI 39))) (dC (dI 3)))) (dC (dI 1024))) (dVar 1)) (dCons (dC (dI 0)) dNil))))))
theorem b__law_bowl (G : Top K mg) (cdv : Value) (A : Around) (outer : List Env) (s : Shared) (H : Hp) (E : XK) (hr : Room 0 (A.deeper (envOfC "_law_bowl" (defScope s__law_bowl) s.heap.objs.size G.f__law_bowl cdv))) (hgd : A.guards = some []) :
    DSs (ctxD P w K mg base nm__law_bowl "_law_bowl" (defScope s__law_bowl) G.f__law_bowl cdv A outer s H E) (defBody s__law_bowl) (t__law_bowl P w K) :=
  have S := sc__law_bowl
  (dss_cons (ds_set (i := 2) S.nd rfl (by first | exact .inl rfl | exact .inr rfl) (de_if (dt_cmp od_lt (dv 1) (de_cb cd_lenA (by rfl) G.z_len boot_len (da_cons (dv 0) da_nil))) (de_at (dv 0) (dv 1)) de_int))
    (dss_one (ds_retW (de_lstX (da_cons (de_cb (cd_max2 rfl) (by rfl) G.z_max boot_max (da_cons de_int (da_cons (de_op od_sub (dv 2) (de_op od_pow de_int de_int)) da_nil))) (da_cons (de_op od_addX (de_op od_mulX (de_op od_mod (dv 2) (de_op od_addX (de_op od_pow de_int de_int) de_int)) de_int) (dv 1)) (da_cons de_int da_nil)))))))
theorem ok__law_bowl (G : Top K mg) {sp : DSp} (len : ∀ ds μ R, sp ds μ R → ds.length = 2)
    (go : ∀ ds μ R, sp ds μ R → t__law_bowl P w K { nx := fun S => R dN S.μ, rt := fun d S => R d S.μ } ⟨ds.map some ++ List.replicate (3 - ds.length) none, μ⟩) : DFn P w K mg base 1 G.f__law_bowl G.fd__law_bowl ["script", "k"] sp :=
  dfn_len G.F__law_bowl sc__law_bowl len (fun cdv A outer s H E hr hgd => b__law_bowl G cdv A outer s H E hr hgd) go
def t_law (P : Program) (w : World) (K : PySem.W.Frag) (sp_is_program : DSp) (sp__law_deep : DSp) (sp__law_due : DSp) (sp__law_changed : DSp) (sp__law_program : DSp) (sp__law_spoon : DSp) (sp__law_shuffled : DSp) (sp__law_bowl : DSp) : DTS :=
  (dSeq (dFor (diRange1 (dCons (dCB (gII2 fun i j => if j > i then j else i) (dCons (dC (dI 1)) (dCons (dCB (gII2 fun i j => if j < i then j else i) (dCons (dC (dI 8)) (dCons (dCB gLenA (dCons (dVar 0) dNil)) dNil))) dNil))) dNil)) (dgName 1)
    (dSeq (dAsg (dCallX sp__law_bowl [] (dCons (dVar 0) (dCons (dVar 1) dNil))) (dgName 2))
    (dSeq (dAsg (dSl (dCallX sp__law_shuffled [] (dCons (dVar 2) (dCons (dLstRg (dRg1 (dC (dI 60)))) dNil))) dNoPart (dPart (dOp (gOr gAdd gAddC) (dC (dI 1)) (dCallX sp__law_spoon [] (dCons (dVar 2) (dCons (dC (dI 60)) dNil)))))) (dgName 3))
    (dSeq (dAsg (dLstX (dCons (dOp gAt (dLstX (dCons (dC (dI 30)) (dCons (dC (dI 210)) dNil))) (dCallX sp__law_spoon [] (dCons (dVar 2) (dCons (dC (dI 2)) dNil)))) dNil)) (dgName 4))
    (dSeq (dPar 5 6 (dCons (dOp gAt (dLstX (dCons (dC (dI 3)) (dCons (dC (dI 8)) dNil))) (dCallX sp__law_spoon [] (dCons (dVar 2) (dCons (dC (dI 2)) dNil)))) (dCons (dOp gAt (dLstX (dCons (dC (dI 6)) (dCons (dC (dI 60)) dNil))) (dCallX sp__law_spoon [] (dCons (dVar 2) (dCons (dC (dI 2)) dNil)))) dNil)))
    (dSeq (dAsg (dCallX sp__law_program [] (dCons (dVar 2) (dCons (dVar 3) (dCons (dVar 5) (dCons (dVar 6) (dCons (dOp gPow (dC (dI 10)) (dC (dI 30))) (dCons (dVar 4) dNil))))))) (dgName 7))
    (dFor (diAny (dOp (gOr gAdd gAddC) (dLstX (dCons (dVar 7) dNil)) (dLcX (diRange1 (dCons (dC (dI 16)) dNil)) (dgName 8) dYes (dCallX sp__law_changed [] (dCons (dVar 2) (dCons (dVar 7) dNil))) [8]))) (dgName 9)
    (dSeq (dAsg (dCB gReprN (dCons (dVar 9) dNil)) (dgName 10))
    (dIfS (dOr (dTest (dOp gNeX (dCB gReprN (dCons (dCallX sp_is_program [] (dCons (dVar 9) dNil)) dNil)) (dCB gReprN (dCons (dCallX sp__law_due [] (dCons (dVar 9) dNil)) dNil)))) (dTest (dOp gNeX (dCB gReprN (dCons (dVar 9) dNil)) (dVar 10)))) (dRetW P w K (dC (dB false))) dNext)))))))))
    (dSeq (dAsg (dLstX (dCons (dC dN) (dCons (dC (dI 0)) (dCons (dC (dB true)) (dCons (dC (dS "")) (dCons (dC (dS "0")) (dCons (dTup dNil) (dCons (dLstX dNil) (dCons (dLstX (dCons (dC (dI 0)) dNil)) (dCons dNewDO (dCons (dTup (dCons (dC (dI 0)) dNil)) (dCons (dTup (dCons (dC (dI 59)) dNil)) (dCons (dTup (dCons (dC (dI 60)) dNil)) (dCons (dTup (dCons (dUn gNeg (dC (dI 1))) dNil)) (dCons (dTup (dCons (dC (dB true)) dNil)) (dCons (dTup (dCons (dC (dS "0")) dNil)) dNil)))))))))))))))) (dgName 11))
    (dSeq (dAsg (dOp (gOr gAdd gAddC) (dVar 11) (dLstX (dCons (dTup (dCons (dTup (dCons (dC (dI 1)) (dCons (dTup (dCons (dC (dI 0)) dNil)) dNil))) dNil)) (dCons (dTup (dCons (dTup (dCons (dC (dI 0)) (dCons (dTup (dCons (dC (dI 1)) dNil)) dNil))) dNil)) dNil)))) (dgName 11))
    (dSeq (dAsg (dOp (gOr gAdd gAddC) (dVar 11) (dLstX (dCons (dOp (gOr (gOr gMul gMulC) gMulT) (dTup (dCons (dC (dI 0)) dNil)) (dC (dI 60))) (dCons (dOp (gOr (gOr gMul gMulC) gMulT) (dTup (dCons (dC (dI 0)) dNil)) (dC (dI 61))) (dCons (dOp (gOr (gOr gMul gMulC) gMulT) (dTup (dCons (dC (dI 0)) dNil)) (dC (dI 200))) (dCons (dOp (gOr (gOr gMul gMulC) gMulT) (dTup (dCons (dTup (dCons (dC (dI 2)) (dCons (dTup (dCons (dC (dI 0)) dNil)) dNil))) dNil)) (dC (dI 60))) (dCons (dOp (gOr (gOr gMul gMulC) gMulT) (dTup (dCons (dTup (dCons (dC (dI 2)) (dCons (dTup (dCons (dC (dI 0)) (dCons (dC (dI 0)) dNil))) dNil))) dNil)) (dC (dI 60))) (dCons (dOp (gOr (gOr gMul gMulC) gMulT) (dTup (dCons (dTup (dCons (dC (dI 2)) (dCons (dTup (dCons (dC (dI 0)) (dCons (dC (dI 0)) (dCons (dC (dI 0)) dNil)))) dNil))) dNil)) (dC (dI 60))) dNil)))))))) (dgName 11))
    (dSeq (dAsg (dOp (gOr gAdd gAddC) (dVar 11) (dLstX (dCons (dOp (gOr gAdd gAddC) (dOp (gOr (gOr gMul gMulC) gMulT) (dTup (dCons (dTup (dCons (dC (dI 2)) (dCons (dOp (gOr (gOr gMul gMulC) gMulT) (dTup (dCons (dC (dI 0)) dNil)) (dC (dI 60))) dNil))) dNil)) (dC (dI 3))) (dOp (gOr (gOr gMul gMulC) gMulT) (dTup (dCons (dC (dI 1)) dNil)) (dC (dI 17)))) (dCons (dOp (gOr gAdd gAddC) (dOp (gOr (gOr gMul gMulC) gMulT) (dTup (dCons (dTup (dCons (dC (dI 2)) (dCons (dOp (gOr (gOr gMul gMulC) gMulT) (dTup (dCons (dC (dI 0)) dNil)) (dC (dI 60))) dNil))) dNil)) (dC (dI 3))) (dOp (gOr (gOr gMul gMulC) gMulT) (dTup (dCons (dC (dI 1)) dNil)) (dC (dI 18)))) (dCons (dCallX sp__law_deep [] (dCons (dC (dI 8)) dNil)) (dCons (dCallX sp__law_deep [] (dCons (dC (dI 9)) dNil)) dNil)))))) (dgName 11))
    (dSeq (dAsg (dOp (gOr gAdd gAddC) (dVar 11) (dLstX (dCons (dTup (dCons (dCallX sp__law_deep [] (dCons (dC (dI 7)) dNil)) dNil)) (dCons (dTup (dCons (dTup (dCons (dC (dI 1)) (dCons (dCallX sp__law_deep [] (dCons (dC (dI 7)) dNil)) dNil))) dNil)) (dCons (dTup (dCons (dTup (dCons (dC (dI 1)) (dCons (dCallX sp__law_deep [] (dCons (dC (dI 8)) dNil)) dNil))) dNil)) (dCons (dTup (dCons (dC (dI 3)) (dCons (dTup (dCons (dC (dI 3)) (dCons (dTup (dCons (dC (dI 1)) (dCons (dC (dI 2)) dNil))) dNil))) dNil))) (dCons (dTup (dCons (dC (dI 3)) (dCons (dC (dI 3)) (dCons (dTup (dCons (dC (dI 1)) (dCons (dC (dI 2)) dNil))) dNil)))) dNil))))))) (dgName 11))
    (dSeq (dIfS (dTest (dOp gNeX (dLcX (diAny (dVar 11)) (dgName 9) (dTest (dOp gNeX (dCB gReprN (dCons (dCallX sp_is_program [] (dCons (dVar 9) dNil)) dNil)) (dCB gReprN (dCons (dCallX sp__law_due [] (dCons (dVar 9) dNil)) dNil)))) (dVar 9) [9]) (dLstX dNil))) (dRetW P w K (dC (dB false))) dNext)
    (dRetW P w K (dOp gEqX (dLstX (dCons (dCallX sp_is_program [] (dCons (dCallX sp__law_deep [] (dCons (dC (dI 8)) dNil)) dNil)) (dCons (dCallX sp_is_program [] (dCons (dCallX sp__law_deep [] (dCons (dC (dI 9)) dNil)) dNil)) (dCons (dCallX sp_is_program [] (dCons (dTup (dCons (dC (dI 0)) (dCons (dTup (dCons (dC (dI 3)) (dCons (dTup (dCons (dC (dI 1)) (dCons (dC (dI 2)) dNil))) dNil))) (dCons (dC (dI 1)) dNil)))) dNil)) dNil)))) (dLstX (dCons (dC (dB true)) (dCons (dC (dB false)) (dCons (dC (dB true)) dNil)))))))))))))
theorem b_law (G : Top K mg) {sp_is_program : DSp} {sp__law_deep : DSp} {sp__law_due : DSp} {sp__law_changed : DSp} {sp__law_program : DSp} {sp__law_spoon : DSp} {sp__law_shuffled : DSp} {sp__law_bowl : DSp} (h_is_program : DFn P w K mg base 16 G.f_is_program G.fd_is_program ["value"] sp_is_program) (h__law_deep : DFn P w K mg base 1 G.f__law_deep G.fd__law_deep ["levels"] sp__law_deep) (h__law_due : DFn P w K mg base 13 G.f__law_due G.fd__law_due ["value"] sp__law_due) (h__law_changed : DFn P w K mg base 13 G.f__law_changed G.fd__law_changed ["bowl", "program_here"] sp__law_changed) (h__law_program : DFn P w K mg base 13 G.f__law_program G.fd__law_program ["bowl", "cars", "levels", "most", "wide", "left"] sp__law_program) (h__law_spoon : DFn P w K mg base 1 G.f__law_spoon G.fd__law_spoon ["bowl", "many"] sp__law_spoon) (h__law_shuffled : DFn P w K mg base 2 G.f__law_shuffled G.fd__law_shuffled ["bowl", "items"] sp__law_shuffled) (h__law_bowl : DFn P w K mg base 1 G.f__law_bowl G.fd__law_bowl ["script", "k"] sp__law_bowl) (cdv : Value) (A : Around) (outer : List Env) (s : Shared) (H : Hp) (E : XK) (hr : Room 16 (A.deeper (envOfC "law" (defScope s_law) s.heap.objs.size G.f_law cdv))) (hgd : A.guards = some []) :
    DSs (ctxD P w K mg base nm_law "law" (defScope s_law) G.f_law cdv A outer s H E) (defBody s_law) (t_law P w K sp_is_program sp__law_deep sp__law_due sp__law_changed sp__law_program sp__law_spoon sp__law_shuffled sp__law_bowl) :=
  have S := sc_law
  (dss_cons (ds_for PassesOwn.never rfl (di_range1 (by rfl) G.z_range (da_cons (de_cb (cd_max2 rfl) (by rfl) G.z_max boot_max (da_cons de_int (da_cons (de_cb (cd_min2 rfl) (by rfl) G.z_min boot_min (da_cons de_int (da_cons (de_cb cd_lenA (by rfl) G.z_len boot_len (da_cons (dv 0) da_nil)) da_nil))) da_nil))) da_nil)) (dg_name (i := 1) S.nd rfl (by first | exact .inl rfl | exact .inr rfl))
    (dss_cons (ds_set (i := 2) S.nd rfl (by first | exact .inl rfl | exact .inr rfl) (de_callX h__law_bowl (hr.mono (by omega)) hgd (by rfl) G.g__law_bowl G.F__law_bowl.kp G.b__law_bowl .nil (fun _ _ => .nil) (da_cons (dv 0) (da_cons (dv 1) da_nil))))
    (dss_cons (ds_set (i := 3) S.nd rfl (by first | exact .inl rfl | exact .inr rfl) (de_sl (de_callX h__law_shuffled (hr.mono (by omega)) hgd (by rfl) G.g__law_shuffled G.F__law_shuffled.kp G.b__law_shuffled .nil (fun _ _ => .nil) (da_cons (dv 2) (da_cons (de_lstRg rfl (by rfl) G.z_list (dr_1 (by rfl) G.z_range de_int)) da_nil))) do_none (do_some (de_op od_addX de_int (de_callX h__law_spoon (hr.mono (by omega)) hgd (by rfl) G.g__law_spoon G.F__law_spoon.kp G.b__law_spoon .nil (fun _ _ => .nil) (da_cons (dv 2) (da_cons de_int da_nil)))))))
    (dss_cons (ds_set (i := 4) S.nd rfl (by first | exact .inl rfl | exact .inr rfl) (de_lstX (da_cons (de_at (de_lstX (da_cons de_int (da_cons de_int da_nil))) (de_callX h__law_spoon (hr.mono (by omega)) hgd (by rfl) G.g__law_spoon G.F__law_spoon.kp G.b__law_spoon .nil (fun _ _ => .nil) (da_cons (dv 2) (da_cons de_int da_nil)))) da_nil)))
    (dss_cons (ds_par (i := 5) (j := 6) rfl S.nd rfl rfl (by decide) rfl rfl (da_cons (de_at (de_lstX (da_cons de_int (da_cons de_int da_nil))) (de_callX h__law_spoon (hr.mono (by omega)) hgd (by rfl) G.g__law_spoon G.F__law_spoon.kp G.b__law_spoon .nil (fun _ _ => .nil) (da_cons (dv 2) (da_cons de_int da_nil)))) (da_cons (de_at (de_lstX (da_cons de_int (da_cons de_int da_nil))) (de_callX h__law_spoon (hr.mono (by omega)) hgd (by rfl) G.g__law_spoon G.F__law_spoon.kp G.b__law_spoon .nil (fun _ _ => .nil) (da_cons (dv 2) (da_cons de_int da_nil)))) da_nil)) rfl)
    (dss_cons (ds_set (i := 7) S.nd rfl (by first | exact .inl rfl | exact .inr rfl) (de_callX h__law_program (hr.mono (by omega)) hgd (by rfl) G.g__law_program G.F__law_program.kp G.b__law_program .nil (fun _ _ => .nil) (da_cons (dv 2) (da_cons (dv 3) (da_cons (dv 5) (da_cons (dv 6) (da_cons (de_op od_pow de_int de_int) (da_cons (dv 4) da_nil))))))))
    (dss_one (ds_for PassesOwn.never rfl (di_any (de_op od_addX (de_lstX (da_cons (dv 7) da_nil)) (de_lcX (own := [("turn", 8)]) (js := [8]) rfl S.nd (di_range1 (by rfl) G.z_range (da_cons de_int da_nil)) (blkOk_by (N := nm_law) (sc := defScope s_law) (by decide +kernel)) (fun _ _ _ _ _ => ⟨(dg_name (i := 8) S.nd rfl (by first | exact .inl rfl | exact .inr rfl)), dts_nil, (de_callX h__law_changed (hr.mono (by omega)) hgd (by rfl) G.g__law_changed G.F__law_changed.kp G.b__law_changed .nil (fun _ _ => .nil) (da_cons (dv 2) (da_cons (dv 7) da_nil)))⟩) (by decide)))) (dg_name (i := 9) S.nd rfl (by first | exact .inl rfl | exact .inr rfl))
    (dss_cons (ds_set (i := 10) S.nd rfl (by first | exact .inl rfl | exact .inr rfl) (de_cb (cd_reprN hgd (room_u hr)) (by rfl) G.z_repr boot_repr (da_cons (dv 9) da_nil)))
    (dss_one (ds_if (DW.t (dw_or (dt_cmp (od_neX (room_u hr)) (de_cb (cd_reprN hgd (room_u hr)) (by rfl) G.z_repr boot_repr (da_cons (de_callX h_is_program (hr.mono (by omega)) hgd (by rfl) G.g_is_program G.F_is_program.kp G.b_is_program .nil (fun _ _ => .nil) (da_cons (dv 9) da_nil)) da_nil)) (de_cb (cd_reprN hgd (room_u hr)) (by rfl) G.z_repr boot_repr (da_cons (de_callX h__law_due (hr.mono (by omega)) hgd (by rfl) G.g__law_due G.F__law_due.kp G.b__law_due .nil (fun _ _ => .nil) (da_cons (dv 9) da_nil)) da_nil))) (dw_or1 (dt_cmp (od_neX (room_u hr)) (de_cb (cd_reprN hgd (room_u hr)) (by rfl) G.z_repr boot_repr (da_cons (dv 9) da_nil)) (dv 10))))) (dss_one (ds_retW de_bl)) dss_nil)))))))))))
    (dss_cons (ds_set (i := 11) S.nd rfl (by first | exact .inl rfl | exact .inr rfl) (de_lstX (da_cons de_non (da_cons de_int (da_cons de_bl (da_cons de_str (da_cons de_str (da_cons (de_tup da_nil) (da_cons (de_lstX da_nil) (da_cons (de_lstX (da_cons de_int da_nil)) (da_cons de_newDO (da_cons (de_tup (da_cons de_int da_nil)) (da_cons (de_tup (da_cons de_int da_nil)) (da_cons (de_tup (da_cons de_int da_nil)) (da_cons (de_tup (da_cons (de_un ud_neg de_int) da_nil)) (da_cons (de_tup (da_cons de_bl da_nil)) (da_cons (de_tup (da_cons de_str da_nil)) da_nil)))))))))))))))))
    (dss_cons (ds_set (i := 11) S.nd rfl (by first | exact .inl rfl | exact .inr rfl) (de_op od_addX (dv 11) (de_lstX (da_cons (de_tup (da_cons (de_tup (da_cons de_int (da_cons (de_tup (da_cons de_int da_nil)) da_nil))) da_nil)) (da_cons (de_tup (da_cons (de_tup (da_cons de_int (da_cons (de_tup (da_cons de_int da_nil)) da_nil))) da_nil)) da_nil)))))
    (dss_cons (ds_set (i := 11) S.nd rfl (by first | exact .inl rfl | exact .inr rfl) (de_op od_addX (dv 11) (de_lstX (da_cons (de_op od_mulXT (de_tup (da_cons de_int da_nil)) de_int) (da_cons (de_op od_mulXT (de_tup (da_cons de_int da_nil)) de_int) (da_cons (de_op od_mulXT (de_tup (da_cons de_int da_nil)) de_int) (da_cons (de_op od_mulXT (de_tup (da_cons (de_tup (da_cons de_int (da_cons (de_tup (da_cons de_int da_nil)) da_nil))) da_nil)) de_int) (da_cons (de_op od_mulXT (de_tup (da_cons (de_tup (da_cons de_int (da_cons (de_tup (da_cons de_int (da_cons de_int da_nil))) da_nil))) da_nil)) de_int) (da_cons (de_op od_mulXT (de_tup (da_cons (de_tup (da_cons de_int (da_cons (de_tup (da_cons de_int (da_cons de_int (da_cons de_int da_nil)))) da_nil))) da_nil)) de_int) da_nil)))))))))
    (dss_cons (ds_set (i := 11) S.nd rfl (by first | exact .inl rfl | exact .inr rfl) (de_op od_addX (dv 11) (de_lstX (da_cons (de_op od_addX (de_op od_mulXT (de_tup (da_cons (de_tup (da_cons de_int (da_cons (de_op od_mulXT (de_tup (da_cons de_int da_nil)) de_int) da_nil))) da_nil)) de_int) (de_op od_mulXT (de_tup (da_cons de_int da_nil)) de_int)) (da_cons (de_op od_addX (de_op od_mulXT (de_tup (da_cons (de_tup (da_cons de_int (da_cons (de_op od_mulXT (de_tup (da_cons de_int da_nil)) de_int) da_nil))) da_nil)) de_int) (de_op od_mulXT (de_tup (da_cons de_int da_nil)) de_int)) (da_cons (de_callX h__law_deep (hr.mono (by omega)) hgd (by rfl) G.g__law_deep G.F__law_deep.kp G.b__law_deep .nil (fun _ _ => .nil) (da_cons de_int da_nil)) (da_cons (de_callX h__law_deep (hr.mono (by omega)) hgd (by rfl) G.g__law_deep G.F__law_deep.kp G.b__law_deep .nil (fun _ _ => .nil) (da_cons de_int da_nil)) da_nil)))))))
    (dss_cons (ds_set (i := 11) S.nd rfl (by first | exact .inl rfl | exact .inr rfl) (de_op od_addX (dv 11) (de_lstX (da_cons (de_tup (da_cons (de_callX h__law_deep (hr.mono (by omega)) hgd (by rfl) G.g__law_deep G.F__law_deep.kp G.b__law_deep .nil (fun _ _ => .nil) (da_cons de_int da_nil)) da_nil)) (da_cons (de_tup (da_cons (de_tup (da_cons de_int (da_cons (de_callX h__law_deep (hr.mono (by omega)) hgd (by rfl) G.g__law_deep G.F__law_deep.kp G.b__law_deep .nil (fun _ _ => .nil) (da_cons de_int da_nil)) da_nil))) da_nil)) (da_cons (de_tup (da_cons (de_tup (da_cons de_int (da_cons (de_callX h__law_deep (hr.mono (by omega)) hgd (by rfl) G.g__law_deep G.F__law_deep.kp G.b__law_deep .nil (fun _ _ => .nil) (da_cons de_int da_nil)) da_nil))) da_nil)) (da_cons (de_tup (da_cons de_int (da_cons (de_tup (da_cons de_int (da_cons (de_tup (da_cons de_int (da_cons de_int da_nil))) da_nil))) da_nil))) (da_cons (de_tup (da_cons de_int (da_cons de_int (da_cons (de_tup (da_cons de_int (da_cons de_int da_nil))) da_nil)))) da_nil))))))))
    (dss_cons (ds_if (dt_cmp (od_neX (room_u hr)) (de_lcX (own := [("value", 9)]) (js := [9]) rfl S.nd (di_any (dv 11)) (blkOk_by (N := nm_law) (sc := defScope s_law) (by decide +kernel)) (fun _ _ _ _ _ => ⟨(dg_name (i := 9) S.nd rfl (by first | exact .inl rfl | exact .inr rfl)), (dts_one (dt_cmp (od_neX (room_u hr)) (de_cb (cd_reprN hgd (room_u hr)) (by rfl) G.z_repr boot_repr (da_cons (de_callX h_is_program (hr.mono (by omega)) hgd (by rfl) G.g_is_program G.F_is_program.kp G.b_is_program .nil (fun _ _ => .nil) (da_cons (dv 9) da_nil)) da_nil)) (de_cb (cd_reprN hgd (room_u hr)) (by rfl) G.z_repr boot_repr (da_cons (de_callX h__law_due (hr.mono (by omega)) hgd (by rfl) G.g__law_due G.F__law_due.kp G.b__law_due .nil (fun _ _ => .nil) (da_cons (dv 9) da_nil)) da_nil)))), (dv 9)⟩) (by decide)) (de_lstX da_nil)) (dss_one (ds_retW de_bl)) dss_nil)
    (dss_one (ds_retW (de_cmp (od_eqX (room_u hr)) (de_lstX (da_cons (de_callX h_is_program (hr.mono (by omega)) hgd (by rfl) G.g_is_program G.F_is_program.kp G.b_is_program .nil (fun _ _ => .nil) (da_cons (de_callX h__law_deep (hr.mono (by omega)) hgd (by rfl) G.g__law_deep G.F__law_deep.kp G.b__law_deep .nil (fun _ _ => .nil) (da_cons de_int da_nil)) da_nil)) (da_cons (de_callX h_is_program (hr.mono (by omega)) hgd (by rfl) G.g_is_program G.F_is_program.kp G.b_is_program .nil (fun _ _ => .nil) (da_cons (de_callX h__law_deep (hr.mono (by omega)) hgd (by rfl) G.g__law_deep G.F__law_deep.kp G.b__law_deep .nil (fun _ _ => .nil) (da_cons de_int da_nil)) da_nil)) (da_cons (de_callX h_is_program (hr.mono (by omega)) hgd (by rfl) G.g_is_program G.F_is_program.kp G.b_is_program .nil (fun _ _ => .nil) (da_cons (de_tup (da_cons de_int (da_cons (de_tup (da_cons de_int (da_cons (de_tup (da_cons de_int (da_cons de_int da_nil))) da_nil))) (da_cons de_int da_nil)))) da_nil)) da_nil)))) (de_lstX (da_cons de_bl (da_cons de_bl (da_cons de_bl da_nil))))))))))))))
theorem ok_law (G : Top K mg) {sp_is_program : DSp} {sp__law_deep : DSp} {sp__law_due : DSp} {sp__law_changed : DSp} {sp__law_program : DSp} {sp__law_spoon : DSp} {sp__law_shuffled : DSp} {sp__law_bowl : DSp} (h_is_program : DFn P w K mg base 16 G.f_is_program G.fd_is_program ["value"] sp_is_program) (h__law_deep : DFn P w K mg base 1 G.f__law_deep G.fd__law_deep ["levels"] sp__law_deep) (h__law_due : DFn P w K mg base 13 G.f__law_due G.fd__law_due ["value"] sp__law_due) (h__law_changed : DFn P w K mg base 13 G.f__law_changed G.fd__law_changed ["bowl", "program_here"] sp__law_changed) (h__law_program : DFn P w K mg base 13 G.f__law_program G.fd__law_program ["bowl", "cars", "levels", "most", "wide", "left"] sp__law_program) (h__law_spoon : DFn P w K mg base 1 G.f__law_spoon G.fd__law_spoon ["bowl", "many"] sp__law_spoon) (h__law_shuffled : DFn P w K mg base 2 G.f__law_shuffled G.fd__law_shuffled ["bowl", "items"] sp__law_shuffled) (h__law_bowl : DFn P w K mg base 1 G.f__law_bowl G.fd__law_bowl ["script", "k"] sp__law_bowl) {sp : DSp} (len : ∀ ds μ R, sp ds μ R → ds.length = 1)
    (go : ∀ ds μ R, sp ds μ R → t_law P w K sp_is_program sp__law_deep sp__law_due sp__law_changed sp__law_program sp__law_spoon sp__law_shuffled sp__law_bowl { nx := fun S => R dN S.μ, rt := fun d S => R d S.μ } ⟨ds.map some ++ List.replicate (12 - ds.length) none, μ⟩) : DFn P w K mg base 17 G.f_law G.fd_law ["script"] sp :=
  dfn_len G.F_law sc_law len (fun cdv A outer s H E hr hgd => b_law G h_is_program h__law_deep h__law_due h__law_changed h__law_program h__law_spoon h__law_shuffled h__law_bowl cdv A outer s H E hr hgd) go
end
theorem top_mk {K : PySem.W.Frag} {h : Heap} {mg : Str → Option Value} (X : K.In h) (G : h.Ns mainGlobals mg)
    {f_is_int : Addr} {od_is_int an_is_int : Option Addr} {sl_is_int : Array (Option Value)} {oc_is_int kV_is_int dc_is_int pm_is_int cd_is_int ct_is_int : Value} {f_in_range : Addr} {od_in_range an_in_range : Option Addr} {sl_in_range : Array (Option Value)} {oc_in_range kV_in_range dc_in_range pm_in_range cd_in_range ct_in_range : Value} {f_is_car : Addr} {od_is_car an_is_car : Option Addr} {sl_is_car : Array (Option Value)} {oc_is_car kV_is_car dc_is_car pm_is_car cd_is_car ct_is_car : Value} {f_steps_in : Addr} {od_steps_in an_steps_in : Option Addr} {sl_steps_in : Array (Option Value)} {oc_steps_in kV_steps_in dc_steps_in pm_steps_in cd_steps_in ct_steps_in : Value} {f_is_program : Addr} {od_is_program an_is_program : Option Addr} {sl_is_program : Array (Option Value)} {oc_is_program kV_is_program dc_is_program pm_is_program cd_is_program ct_is_program : Value} {f__law_deep : Addr} {od__law_deep an__law_deep : Option Addr} {sl__law_deep : Array (Option Value)} {oc__law_deep kV__law_deep dc__law_deep pm__law_deep cd__law_deep ct__law_deep : Value} {f__law_steps : Addr} {od__law_steps an__law_steps : Option Addr} {sl__law_steps : Array (Option Value)} {oc__law_steps kV__law_steps dc__law_steps pm__law_steps cd__law_steps ct__law_steps : Value} {f__law_depth : Addr} {od__law_depth an__law_depth : Option Addr} {sl__law_depth : Array (Option Value)} {oc__law_depth kV__law_depth dc__law_depth pm__law_depth cd__law_depth ct__law_depth : Value} {f__law_is_form : Addr} {od__law_is_form an__law_is_form : Option Addr} {sl__law_is_form : Array (Option Value)} {oc__law_is_form kV__law_is_form dc__law_is_form pm__law_is_form cd__law_is_form ct__law_is_form : Value} {f__law_due : Addr} {od__law_due an__law_due : Option Addr} {sl__law_due : Array (Option Value)} {oc__law_due kV__law_due dc__law_due pm__law_due cd__law_due ct__law_due : Value} {f__law_spoon : Addr} {od__law_spoon an__law_spoon : Option Addr} {sl__law_spoon : Array (Option Value)} {oc__law_spoon kV__law_spoon dc__law_spoon pm__law_spoon cd__law_spoon ct__law_spoon : Value} {f__law_changed : Addr} {od__law_changed an__law_changed : Option Addr} {sl__law_changed : Array (Option Value)} {oc__law_changed kV__law_changed dc__law_changed pm__law_changed cd__law_changed ct__law_changed : Value} {f__law_program : Addr} {od__law_program an__law_program : Option Addr} {sl__law_program : Array (Option Value)} {oc__law_program kV__law_program dc__law_program pm__law_program cd__law_program ct__law_program : Value} {f__law_shuffled : Addr} {od__law_shuffled an__law_shuffled : Option Addr} {sl__law_shuffled : Array (Option Value)} {oc__law_shuffled kV__law_shuffled dc__law_shuffled pm__law_shuffled cd__law_shuffled ct__law_shuffled : Value} {f__law_bowl : Addr} {od__law_bowl an__law_bowl : Option Addr} {sl__law_bowl : Array (Option Value)} {oc__law_bowl kV__law_bowl dc__law_bowl pm__law_bowl cd__law_bowl ct__law_bowl : Value} {f_law : Addr} {od_law an_law : Option Addr} {sl_law : Array (Option Value)} {oc_law kV_law dc_law pm_law cd_law ct_law : Value} {t_CARS : Tok} {t_MOST_DEPTH : Tok} {t_MOST_STEPS : Tok} {t_MOST_STEPS_IN_ALL : Tok} {t_MOST_TIMES : Tok}
    (a_is_int : PySem.W.nsIn K mainGlobals "is_int" = some (some (.ref f_is_int))) (l_is_int : K.lookup f_is_int = some ⟨oc_is_int, od_is_int, .func (PySem.W.fnOf "is_int" "is_int" (defArgs s_is_int) (defBody s_is_int) (defScope s_is_int) .none kV_is_int dc_is_int pm_is_int an_is_int cd_is_int ct_is_int), sl_is_int⟩) (c_is_int : PySem.W.codeIn K cd_is_int "is_int" = true) (k_is_int : PySem.W.keepIn K (.ref f_is_int) = true)
    (a_in_range : PySem.W.nsIn K mainGlobals "in_range" = some (some (.ref f_in_range))) (l_in_range : K.lookup f_in_range = some ⟨oc_in_range, od_in_range, .func (PySem.W.fnOf "in_range" "in_range" (defArgs s_in_range) (defBody s_in_range) (defScope s_in_range) .none kV_in_range dc_in_range pm_in_range an_in_range cd_in_range ct_in_range), sl_in_range⟩) (c_in_range : PySem.W.codeIn K cd_in_range "in_range" = true) (k_in_range : PySem.W.keepIn K (.ref f_in_range) = true)
    (a_is_car : PySem.W.nsIn K mainGlobals "is_car" = some (some (.ref f_is_car))) (l_is_car : K.lookup f_is_car = some ⟨oc_is_car, od_is_car, .func (PySem.W.fnOf "is_car" "is_car" (defArgs s_is_car) (defBody s_is_car) (defScope s_is_car) .none kV_is_car dc_is_car pm_is_car an_is_car cd_is_car ct_is_car), sl_is_car⟩) (c_is_car : PySem.W.codeIn K cd_is_car "is_car" = true) (k_is_car : PySem.W.keepIn K (.ref f_is_car) = true)
    (a_steps_in : PySem.W.nsIn K mainGlobals "steps_in" = some (some (.ref f_steps_in))) (l_steps_in : K.lookup f_steps_in = some ⟨oc_steps_in, od_steps_in, .func (PySem.W.fnOf "steps_in" "steps_in" (defArgs s_steps_in) (defBody s_steps_in) (defScope s_steps_in) .none kV_steps_in dc_steps_in pm_steps_in an_steps_in cd_steps_in ct_steps_in), sl_steps_in⟩) (c_steps_in : PySem.W.codeIn K cd_steps_in "steps_in" = true) (k_steps_in : PySem.W.keepIn K (.ref f_steps_in) = true)
    (a_is_program : PySem.W.nsIn K mainGlobals "is_program" = some (some (.ref f_is_program))) (l_is_program : K.lookup f_is_program = some ⟨oc_is_program, od_is_program, .func (PySem.W.fnOf "is_program" "is_program" (defArgs s_is_program) (defBody s_is_program) (defScope s_is_program) .none kV_is_program dc_is_program pm_is_program an_is_program cd_is_program ct_is_program), sl_is_program⟩) (c_is_program : PySem.W.codeIn K cd_is_program "is_program" = true) (k_is_program : PySem.W.keepIn K (.ref f_is_program) = true)
    (a__law_deep : PySem.W.nsIn K mainGlobals "_law_deep" = some (some (.ref f__law_deep))) (l__law_deep : K.lookup f__law_deep = some ⟨oc__law_deep, od__law_deep, .func (PySem.W.fnOf "_law_deep" "_law_deep" (defArgs s__law_deep) (defBody s__law_deep) (defScope s__law_deep) .none kV__law_deep dc__law_deep pm__law_deep an__law_deep cd__law_deep ct__law_deep), sl__law_deep⟩) (c__law_deep : PySem.W.codeIn K cd__law_deep "_law_deep" = true) (k__law_deep : PySem.W.keepIn K (.ref f__law_deep) = true)
    (a__law_steps : PySem.W.nsIn K mainGlobals "_law_steps" = some (some (.ref f__law_steps))) (l__law_steps : K.lookup f__law_steps = some ⟨oc__law_steps, od__law_steps, .func (PySem.W.fnOf "_law_steps" "_law_steps" (defArgs s__law_steps) (defBody s__law_steps) (defScope s__law_steps) .none kV__law_steps dc__law_steps pm__law_steps an__law_steps cd__law_steps ct__law_steps), sl__law_steps⟩) (c__law_steps : PySem.W.codeIn K cd__law_steps "_law_steps" = true) (k__law_steps : PySem.W.keepIn K (.ref f__law_steps) = true)
    (a__law_depth : PySem.W.nsIn K mainGlobals "_law_depth" = some (some (.ref f__law_depth))) (l__law_depth : K.lookup f__law_depth = some ⟨oc__law_depth, od__law_depth, .func (PySem.W.fnOf "_law_depth" "_law_depth" (defArgs s__law_depth) (defBody s__law_depth) (defScope s__law_depth) .none kV__law_depth dc__law_depth pm__law_depth an__law_depth cd__law_depth ct__law_depth), sl__law_depth⟩) (c__law_depth : PySem.W.codeIn K cd__law_depth "_law_depth" = true) (k__law_depth : PySem.W.keepIn K (.ref f__law_depth) = true)
    (a__law_is_form : PySem.W.nsIn K mainGlobals "_law_is_form" = some (some (.ref f__law_is_form))) (l__law_is_form : K.lookup f__law_is_form = some ⟨oc__law_is_form, od__law_is_form, .func (PySem.W.fnOf "_law_is_form" "_law_is_form" (defArgs s__law_is_form) (defBody s__law_is_form) (defScope s__law_is_form) .none kV__law_is_form dc__law_is_form pm__law_is_form an__law_is_form cd__law_is_form ct__law_is_form), sl__law_is_form⟩) (c__law_is_form : PySem.W.codeIn K cd__law_is_form "_law_is_form" = true) (k__law_is_form : PySem.W.keepIn K (.ref f__law_is_form) = true)
    (a__law_due : PySem.W.nsIn K mainGlobals "_law_due" = some (some (.ref f__law_due))) (l__law_due : K.lookup f__law_due = some ⟨oc__law_due, od__law_due, .func (PySem.W.fnOf "_law_due" "_law_due" (defArgs s__law_due) (defBody s__law_due) (defScope s__law_due) .none kV__law_due dc__law_due pm__law_due an__law_due cd__law_due ct__law_due), sl__law_due⟩) (c__law_due : PySem.W.codeIn K cd__law_due "_law_due" = true) (k__law_due : PySem.W.keepIn K (.ref f__law_due) = true)
    (a__law_spoon : PySem.W.nsIn K mainGlobals "_law_spoon" = some (some (.ref f__law_spoon))) (l__law_spoon : K.lookup f__law_spoon = some ⟨oc__law_spoon, od__law_spoon, .func (PySem.W.fnOf "_law_spoon" "_law_spoon" (defArgs s__law_spoon) (defBody s__law_spoon) (defScope s__law_spoon) .none kV__law_spoon dc__law_spoon pm__law_spoon an__law_spoon cd__law_spoon ct__law_spoon), sl__law_spoon⟩) (c__law_spoon : PySem.W.codeIn K cd__law_spoon "_law_spoon" = true) (k__law_spoon : PySem.W.keepIn K (.ref f__law_spoon) = true)
    (a__law_changed : PySem.W.nsIn K mainGlobals "_law_changed" = some (some (.ref f__law_changed))) (l__law_changed : K.lookup f__law_changed = some ⟨oc__law_changed, od__law_changed, .func (PySem.W.fnOf "_law_changed" "_law_changed" (defArgs s__law_changed) (defBody s__law_changed) (defScope s__law_changed) .none kV__law_changed dc__law_changed pm__law_changed an__law_changed cd__law_changed ct__law_changed), sl__law_changed⟩) (c__law_changed : PySem.W.codeIn K cd__law_changed "_law_changed" = true) (k__law_changed : PySem.W.keepIn K (.ref f__law_changed) = true)
    (a__law_program : PySem.W.nsIn K mainGlobals "_law_program" = some (some (.ref f__law_program))) (l__law_program : K.lookup f__law_program = some ⟨oc__law_program, od__law_program, .func (PySem.W.fnOf "_law_program" "_law_program" (defArgs s__law_program) (defBody s__law_program) (defScope s__law_program) .none kV__law_program dc__law_program pm__law_program an__law_program cd__law_program ct__law_program), sl__law_program⟩) (c__law_program : PySem.W.codeIn K cd__law_program "_law_program" = true) (k__law_program : PySem.W.keepIn K (.ref f__law_program) = true)
    (a__law_shuffled : PySem.W.nsIn K mainGlobals "_law_shuffled" = some (some (.ref f__law_shuffled))) (l__law_shuffled : K.lookup f__law_shuffled = some ⟨oc__law_shuffled, od__law_shuffled, .func (PySem.W.fnOf "_law_shuffled" "_law_shuffled" (defArgs s__law_shuffled) (defBody s__law_shuffled) (defScope s__law_shuffled) .none kV__law_shuffled dc__law_shuffled pm__law_shuffled an__law_shuffled cd__law_shuffled ct__law_shuffled), sl__law_shuffled⟩) (c__law_shuffled : PySem.W.codeIn K cd__law_shuffled "_law_shuffled" = true) (k__law_shuffled : PySem.W.keepIn K (.ref f__law_shuffled) = true)
    (a__law_bowl : PySem.W.nsIn K mainGlobals "_law_bowl" = some (some (.ref f__law_bowl))) (l__law_bowl : K.lookup f__law_bowl = some ⟨oc__law_bowl, od__law_bowl, .func (PySem.W.fnOf "_law_bowl" "_law_bowl" (defArgs s__law_bowl) (defBody s__law_bowl) (defScope s__law_bowl) .none kV__law_bowl dc__law_bowl pm__law_bowl an__law_bowl cd__law_bowl ct__law_bowl), sl__law_bowl⟩) (c__law_bowl : PySem.W.codeIn K cd__law_bowl "_law_bowl" = true) (k__law_bowl : PySem.W.keepIn K (.ref f__law_bowl) = true)
    (a_law : PySem.W.nsIn K mainGlobals "law" = some (some (.ref f_law))) (l_law : K.lookup f_law = some ⟨oc_law, od_law, .func (PySem.W.fnOf "law" "law" (defArgs s_law) (defBody s_law) (defScope s_law) .none kV_law dc_law pm_law an_law cd_law ct_law), sl_law⟩) (c_law : PySem.W.codeIn K cd_law "law" = true) (k_law : PySem.W.keepIn K (.ref f_law) = true)
    (z_bool : PySem.W.nsIn K mainGlobals "bool" = some none)
    (z_int : PySem.W.nsIn K mainGlobals "int" = some none)
    (z_isinstance : PySem.W.nsIn K mainGlobals "isinstance" = some none)
    (z_len : PySem.W.nsIn K mainGlobals "len" = some none)
    (z_list : PySem.W.nsIn K mainGlobals "list" = some none)
    (z_max : PySem.W.nsIn K mainGlobals "max" = some none)
    (z_min : PySem.W.nsIn K mainGlobals "min" = some none)
    (z_range : PySem.W.nsIn K mainGlobals "range" = some none)
    (z_repr : PySem.W.nsIn K mainGlobals "repr" = some none)
    (z_sum : PySem.W.nsIn K mainGlobals "sum" = some none)
    (z_tuple : PySem.W.nsIn K mainGlobals "tuple" = some none)
    (v_CARS : PySem.W.nsIn K mainGlobals "CARS" = some (some (.int 60 t_CARS)))
    (v_MOST_DEPTH : PySem.W.nsIn K mainGlobals "MOST_DEPTH" = some (some (.int 8 t_MOST_DEPTH)))
    (v_MOST_STEPS : PySem.W.nsIn K mainGlobals "MOST_STEPS" = some (some (.int 60 t_MOST_STEPS)))
    (v_MOST_STEPS_IN_ALL : PySem.W.nsIn K mainGlobals "MOST_STEPS_IN_ALL" = some (some (.int 200 t_MOST_STEPS_IN_ALL)))
    (v_MOST_TIMES : PySem.W.nsIn K mainGlobals "MOST_TIMES" = some (some (.int 1000000000000000000000000000000 t_MOST_TIMES))) :
    ∃ T : Top K mg, T.f_law = f_law ∧ T.fd_law = PySem.W.fnOf "law" "law" (defArgs s_law) (defBody s_law) (defScope s_law) .none kV_law dc_law pm_law an_law cd_law ct_law := ⟨{
    f_is_int := f_is_int
    fd_is_int := _
    F_is_int := fun_mk (st := s_is_int) l_is_int c_is_int k_is_int
    b_is_int := (fun_mk (st := s_is_int) l_is_int c_is_int k_is_int).binds fun _ _ _ _ _ _ us hl => match us, hl with | [_], _ => rfl
    g_is_int := PySem.W.mg_of X G a_is_int
    f_in_range := f_in_range
    fd_in_range := _
    F_in_range := fun_mk (st := s_in_range) l_in_range c_in_range k_in_range
    b_in_range := (fun_mk (st := s_in_range) l_in_range c_in_range k_in_range).binds fun _ _ _ _ _ _ us hl => match us, hl with | [_, _, _], _ => rfl
    g_in_range := PySem.W.mg_of X G a_in_range
    f_is_car := f_is_car
    fd_is_car := _
    F_is_car := fun_mk (st := s_is_car) l_is_car c_is_car k_is_car
    b_is_car := (fun_mk (st := s_is_car) l_is_car c_is_car k_is_car).binds fun _ _ _ _ _ _ us hl => match us, hl with | [_], _ => rfl
    g_is_car := PySem.W.mg_of X G a_is_car
    f_steps_in := f_steps_in
    fd_steps_in := _
    F_steps_in := fun_mk (st := s_steps_in) l_steps_in c_steps_in k_steps_in
    b_steps_in := (fun_mk (st := s_steps_in) l_steps_in c_steps_in k_steps_in).binds fun _ _ _ _ _ _ us hl => match us, hl with | [_, _], _ => rfl
    g_steps_in := PySem.W.mg_of X G a_steps_in
    f_is_program := f_is_program
    fd_is_program := _
    F_is_program := fun_mk (st := s_is_program) l_is_program c_is_program k_is_program
    b_is_program := (fun_mk (st := s_is_program) l_is_program c_is_program k_is_program).binds fun _ _ _ _ _ _ us hl => match us, hl with | [_], _ => rfl
    g_is_program := PySem.W.mg_of X G a_is_program
    f__law_deep := f__law_deep
    fd__law_deep := _
    F__law_deep := fun_mk (st := s__law_deep) l__law_deep c__law_deep k__law_deep
    b__law_deep := (fun_mk (st := s__law_deep) l__law_deep c__law_deep k__law_deep).binds fun _ _ _ _ _ _ us hl => match us, hl with | [_], _ => rfl
    g__law_deep := PySem.W.mg_of X G a__law_deep
    f__law_steps := f__law_steps
    fd__law_steps := _
    F__law_steps := fun_mk (st := s__law_steps) l__law_steps c__law_steps k__law_steps
    b__law_steps := (fun_mk (st := s__law_steps) l__law_steps c__law_steps k__law_steps).binds fun _ _ _ _ _ _ us hl => match us, hl with | [_], _ => rfl
    g__law_steps := PySem.W.mg_of X G a__law_steps
    f__law_depth := f__law_depth
    fd__law_depth := _
    F__law_depth := fun_mk (st := s__law_depth) l__law_depth c__law_depth k__law_depth
    b__law_depth := (fun_mk (st := s__law_depth) l__law_depth c__law_depth k__law_depth).binds fun _ _ _ _ _ _ us hl => match us, hl with | [_], _ => rfl
    g__law_depth := PySem.W.mg_of X G a__law_depth
    f__law_is_form := f__law_is_form
    fd__law_is_form := _
    F__law_is_form := fun_mk (st := s__law_is_form) l__law_is_form c__law_is_form k__law_is_form
    b__law_is_form := (fun_mk (st := s__law_is_form) l__law_is_form c__law_is_form k__law_is_form).binds fun _ _ _ _ _ _ us hl => match us, hl with | [_], _ => rfl
    g__law_is_form := PySem.W.mg_of X G a__law_is_form
    f__law_due := f__law_due
    fd__law_due := _
    F__law_due := fun_mk (st := s__law_due) l__law_due c__law_due k__law_due
    b__law_due := (fun_mk (st := s__law_due) l__law_due c__law_due k__law_due).binds fun _ _ _ _ _ _ us hl => match us, hl with | [_], _ => rfl
    g__law_due := PySem.W.mg_of X G a__law_due
    f__law_spoon := f__law_spoon
    fd__law_spoon := _
    F__law_spoon := fun_mk (st := s__law_spoon) l__law_spoon c__law_spoon k__law_spoon
    b__law_spoon := (fun_mk (st := s__law_spoon) l__law_spoon c__law_spoon k__law_spoon).binds fun _ _ _ _ _ _ us hl => match us, hl with | [_, _], _ => rfl
    g__law_spoon := PySem.W.mg_of X G a__law_spoon
    f__law_changed := f__law_changed
    fd__law_changed := _
    F__law_changed := fun_mk (st := s__law_changed) l__law_changed c__law_changed k__law_changed
    b__law_changed := (fun_mk (st := s__law_changed) l__law_changed c__law_changed k__law_changed).binds fun _ _ _ _ _ _ us hl => match us, hl with | [_, _], _ => rfl
    g__law_changed := PySem.W.mg_of X G a__law_changed
    f__law_program := f__law_program
    fd__law_program := _
    F__law_program := fun_mk (st := s__law_program) l__law_program c__law_program k__law_program
    b__law_program := (fun_mk (st := s__law_program) l__law_program c__law_program k__law_program).binds fun _ _ _ _ _ _ us hl => match us, hl with | [_, _, _, _, _, _], _ => rfl
    g__law_program := PySem.W.mg_of X G a__law_program
    f__law_shuffled := f__law_shuffled
    fd__law_shuffled := _
    F__law_shuffled := fun_mk (st := s__law_shuffled) l__law_shuffled c__law_shuffled k__law_shuffled
    b__law_shuffled := (fun_mk (st := s__law_shuffled) l__law_shuffled c__law_shuffled k__law_shuffled).binds fun _ _ _ _ _ _ us hl => match us, hl with | [_, _], _ => rfl
    g__law_shuffled := PySem.W.mg_of X G a__law_shuffled
    f__law_bowl := f__law_bowl
    fd__law_bowl := _
    F__law_bowl := fun_mk (st := s__law_bowl) l__law_bowl c__law_bowl k__law_bowl
    b__law_bowl := (fun_mk (st := s__law_bowl) l__law_bowl c__law_bowl k__law_bowl).binds fun _ _ _ _ _ _ us hl => match us, hl with | [_, _], _ => rfl
    g__law_bowl := PySem.W.mg_of X G a__law_bowl
    f_law := f_law
    fd_law := _
    F_law := fun_mk (st := s_law) l_law c_law k_law
    b_law := (fun_mk (st := s_law) l_law c_law k_law).binds fun _ _ _ _ _ _ us hl => match us, hl with | [_], _ => rfl
    g_law := PySem.W.mg_of X G a_law
    z_bool := PySem.W.mg_none_of X G z_bool
    z_int := PySem.W.mg_none_of X G z_int
    z_isinstance := PySem.W.mg_none_of X G z_isinstance
    z_len := PySem.W.mg_none_of X G z_len
    z_list := PySem.W.mg_none_of X G z_list
    z_max := PySem.W.mg_none_of X G z_max
    z_min := PySem.W.mg_none_of X G z_min
    z_range := PySem.W.mg_none_of X G z_range
    z_repr := PySem.W.mg_none_of X G z_repr
    z_sum := PySem.W.mg_none_of X G z_sum
    z_tuple := PySem.W.mg_none_of X G z_tuple
    c_CARS := ⟨t_CARS, PySem.W.mg_of X G v_CARS⟩
    c_MOST_DEPTH := ⟨t_MOST_DEPTH, PySem.W.mg_of X G v_MOST_DEPTH⟩
    c_MOST_STEPS := ⟨t_MOST_STEPS, PySem.W.mg_of X G v_MOST_STEPS⟩
    c_MOST_STEPS_IN_ALL := ⟨t_MOST_STEPS_IN_ALL, PySem.W.mg_of X G v_MOST_STEPS_IN_ALL⟩
    c_MOST_TIMES := ⟨t_MOST_TIMES, PySem.W.mg_of X G v_MOST_TIMES⟩ }, rfl, rfl⟩
theorem end_mk {P : Program} {w : World} {K : PySem.W.Frag} {h : Heap} {mg : Str → Option Value} {fa : Addr} {sp : DSp} (X : K.In h) (G : h.Ns mainGlobals mg) (hfa : mg "law" = some (.ref fa))
    (ok : ∀ (base : Heap) (T : Top K mg), DFn P w K mg base 17 T.f_law T.fd_law ["script"] sp)
    {f_is_int : Addr} {od_is_int an_is_int : Option Addr} {sl_is_int : Array (Option Value)} {oc_is_int kV_is_int dc_is_int pm_is_int cd_is_int ct_is_int : Value} {f_in_range : Addr} {od_in_range an_in_range : Option Addr} {sl_in_range : Array (Option Value)} {oc_in_range kV_in_range dc_in_range pm_in_range cd_in_range ct_in_range : Value} {f_is_car : Addr} {od_is_car an_is_car : Option Addr} {sl_is_car : Array (Option Value)} {oc_is_car kV_is_car dc_is_car pm_is_car cd_is_car ct_is_car : Value} {f_steps_in : Addr} {od_steps_in an_steps_in : Option Addr} {sl_steps_in : Array (Option Value)} {oc_steps_in kV_steps_in dc_steps_in pm_steps_in cd_steps_in ct_steps_in : Value} {f_is_program : Addr} {od_is_program an_is_program : Option Addr} {sl_is_program : Array (Option Value)} {oc_is_program kV_is_program dc_is_program pm_is_program cd_is_program ct_is_program : Value} {f__law_deep : Addr} {od__law_deep an__law_deep : Option Addr} {sl__law_deep : Array (Option Value)} {oc__law_deep kV__law_deep dc__law_deep pm__law_deep cd__law_deep ct__law_deep : Value} {f__law_steps : Addr} {od__law_steps an__law_steps : Option Addr} {sl__law_steps : Array (Option Value)} {oc__law_steps kV__law_steps dc__law_steps pm__law_steps cd__law_steps ct__law_steps : Value} {f__law_depth : Addr} {od__law_depth an__law_depth : Option Addr} {sl__law_depth : Array (Option Value)} {oc__law_depth kV__law_depth dc__law_depth pm__law_depth cd__law_depth ct__law_depth : Value} {f__law_is_form : Addr} {od__law_is_form an__law_is_form : Option Addr} {sl__law_is_form : Array (Option Value)} {oc__law_is_form kV__law_is_form dc__law_is_form pm__law_is_form cd__law_is_form ct__law_is_form : Value} {f__law_due : Addr} {od__law_due an__law_due : Option Addr} {sl__law_due : Array (Option Value)} {oc__law_due kV__law_due dc__law_due pm__law_due cd__law_due ct__law_due : Value} {f__law_spoon : Addr} {od__law_spoon an__law_spoon : Option Addr} {sl__law_spoon : Array (Option Value)} {oc__law_spoon kV__law_spoon dc__law_spoon pm__law_spoon cd__law_spoon ct__law_spoon : Value} {f__law_changed : Addr} {od__law_changed an__law_changed : Option Addr} {sl__law_changed : Array (Option Value)} {oc__law_changed kV__law_changed dc__law_changed pm__law_changed cd__law_changed ct__law_changed : Value} {f__law_program : Addr} {od__law_program an__law_program : Option Addr} {sl__law_program : Array (Option Value)} {oc__law_program kV__law_program dc__law_program pm__law_program cd__law_program ct__law_program : Value} {f__law_shuffled : Addr} {od__law_shuffled an__law_shuffled : Option Addr} {sl__law_shuffled : Array (Option Value)} {oc__law_shuffled kV__law_shuffled dc__law_shuffled pm__law_shuffled cd__law_shuffled ct__law_shuffled : Value} {f__law_bowl : Addr} {od__law_bowl an__law_bowl : Option Addr} {sl__law_bowl : Array (Option Value)} {oc__law_bowl kV__law_bowl dc__law_bowl pm__law_bowl cd__law_bowl ct__law_bowl : Value} {f_law : Addr} {od_law an_law : Option Addr} {sl_law : Array (Option Value)} {oc_law kV_law dc_law pm_law cd_law ct_law : Value} {t_CARS : Tok} {t_MOST_DEPTH : Tok} {t_MOST_STEPS : Tok} {t_MOST_STEPS_IN_ALL : Tok} {t_MOST_TIMES : Tok}
    (a_is_int : PySem.W.nsIn K mainGlobals "is_int" = some (some (.ref f_is_int))) (l_is_int : K.lookup f_is_int = some ⟨oc_is_int, od_is_int, .func (PySem.W.fnOf "is_int" "is_int" (defArgs s_is_int) (defBody s_is_int) (defScope s_is_int) .none kV_is_int dc_is_int pm_is_int an_is_int cd_is_int ct_is_int), sl_is_int⟩) (c_is_int : PySem.W.codeIn K cd_is_int "is_int" = true) (k_is_int : PySem.W.keepIn K (.ref f_is_int) = true)
    (a_in_range : PySem.W.nsIn K mainGlobals "in_range" = some (some (.ref f_in_range))) (l_in_range : K.lookup f_in_range = some ⟨oc_in_range, od_in_range, .func (PySem.W.fnOf "in_range" "in_range" (defArgs s_in_range) (defBody s_in_range) (defScope s_in_range) .none kV_in_range dc_in_range pm_in_range an_in_range cd_in_range ct_in_range), sl_in_range⟩) (c_in_range : PySem.W.codeIn K cd_in_range "in_range" = true) (k_in_range : PySem.W.keepIn K (.ref f_in_range) = true)
    (a_is_car : PySem.W.nsIn K mainGlobals "is_car" = some (some (.ref f_is_car))) (l_is_car : K.lookup f_is_car = some ⟨oc_is_car, od_is_car, .func (PySem.W.fnOf "is_car" "is_car" (defArgs s_is_car) (defBody s_is_car) (defScope s_is_car) .none kV_is_car dc_is_car pm_is_car an_is_car cd_is_car ct_is_car), sl_is_car⟩) (c_is_car : PySem.W.codeIn K cd_is_car "is_car" = true) (k_is_car : PySem.W.keepIn K (.ref f_is_car) = true)
    (a_steps_in : PySem.W.nsIn K mainGlobals "steps_in" = some (some (.ref f_steps_in))) (l_steps_in : K.lookup f_steps_in = some ⟨oc_steps_in, od_steps_in, .func (PySem.W.fnOf "steps_in" "steps_in" (defArgs s_steps_in) (defBody s_steps_in) (defScope s_steps_in) .none kV_steps_in dc_steps_in pm_steps_in an_steps_in cd_steps_in ct_steps_in), sl_steps_in⟩) (c_steps_in : PySem.W.codeIn K cd_steps_in "steps_in" = true) (k_steps_in : PySem.W.keepIn K (.ref f_steps_in) = true)
    (a_is_program : PySem.W.nsIn K mainGlobals "is_program" = some (some (.ref f_is_program))) (l_is_program : K.lookup f_is_program = some ⟨oc_is_program, od_is_program, .func (PySem.W.fnOf "is_program" "is_program" (defArgs s_is_program) (defBody s_is_program) (defScope s_is_program) .none kV_is_program dc_is_program pm_is_program an_is_program cd_is_program ct_is_program), sl_is_program⟩) (c_is_program : PySem.W.codeIn K cd_is_program "is_program" = true) (k_is_program : PySem.W.keepIn K (.ref f_is_program) = true)
    (a__law_deep : PySem.W.nsIn K mainGlobals "_law_deep" = some (some (.ref f__law_deep))) (l__law_deep : K.lookup f__law_deep = some ⟨oc__law_deep, od__law_deep, .func (PySem.W.fnOf "_law_deep" "_law_deep" (defArgs s__law_deep) (defBody s__law_deep) (defScope s__law_deep) .none kV__law_deep dc__law_deep pm__law_deep an__law_deep cd__law_deep ct__law_deep), sl__law_deep⟩) (c__law_deep : PySem.W.codeIn K cd__law_deep "_law_deep" = true) (k__law_deep : PySem.W.keepIn K (.ref f__law_deep) = true)
    (a__law_steps : PySem.W.nsIn K mainGlobals "_law_steps" = some (some (.ref f__law_steps))) (l__law_steps : K.lookup f__law_steps = some ⟨oc__law_steps, od__law_steps, .func (PySem.W.fnOf "_law_steps" "_law_steps" (defArgs s__law_steps) (defBody s__law_steps) (defScope s__law_steps) .none kV__law_steps dc__law_steps pm__law_steps an__law_steps cd__law_steps ct__law_steps), sl__law_steps⟩) (c__law_steps : PySem.W.codeIn K cd__law_steps "_law_steps" = true) (k__law_steps : PySem.W.keepIn K (.ref f__law_steps) = true)
    (a__law_depth : PySem.W.nsIn K mainGlobals "_law_depth" = some (some (.ref f__law_depth))) (l__law_depth : K.lookup f__law_depth = some ⟨oc__law_depth, od__law_depth, .func (PySem.W.fnOf "_law_depth" "_law_depth" (defArgs s__law_depth) (defBody s__law_depth) (defScope s__law_depth) .none kV__law_depth dc__law_depth pm__law_depth an__law_depth cd__law_depth ct__law_depth), sl__law_depth⟩) (c__law_depth : PySem.W.codeIn K cd__law_depth "_law_depth" = true) (k__law_depth : PySem.W.keepIn K (.ref f__law_depth) = true)
    (a__law_is_form : PySem.W.nsIn K mainGlobals "_law_is_form" = some (some (.ref f__law_is_form))) (l__law_is_form : K.lookup f__law_is_form = some ⟨oc__law_is_form, od__law_is_form, .func (PySem.W.fnOf "_law_is_form" "_law_is_form" (defArgs s__law_is_form) (defBody s__law_is_form) (defScope s__law_is_form) .none kV__law_is_form dc__law_is_form pm__law_is_form an__law_is_form cd__law_is_form ct__law_is_form), sl__law_is_form⟩) (c__law_is_form : PySem.W.codeIn K cd__law_is_form "_law_is_form" = true) (k__law_is_form : PySem.W.keepIn K (.ref f__law_is_form) = true)
    (a__law_due : PySem.W.nsIn K mainGlobals "_law_due" = some (some (.ref f__law_due))) (l__law_due : K.lookup f__law_due = some ⟨oc__law_due, od__law_due, .func (PySem.W.fnOf "_law_due" "_law_due" (defArgs s__law_due) (defBody s__law_due) (defScope s__law_due) .none kV__law_due dc__law_due pm__law_due an__law_due cd__law_due ct__law_due), sl__law_due⟩) (c__law_due : PySem.W.codeIn K cd__law_due "_law_due" = true) (k__law_due : PySem.W.keepIn K (.ref f__law_due) = true)
    (a__law_spoon : PySem.W.nsIn K mainGlobals "_law_spoon" = some (some (.ref f__law_spoon))) (l__law_spoon : K.lookup f__law_spoon = some ⟨oc__law_spoon, od__law_spoon, .func (PySem.W.fnOf "_law_spoon" "_law_spoon" (defArgs s__law_spoon) (defBody s__law_spoon) (defScope s__law_spoon) .none kV__law_spoon dc__law_spoon pm__law_spoon an__law_spoon cd__law_spoon ct__law_spoon), sl__law_spoon⟩) (c__law_spoon : PySem.W.codeIn K cd__law_spoon "_law_spoon" = true) (k__law_spoon : PySem.W.keepIn K (.ref f__law_spoon) = true)
    (a__law_changed : PySem.W.nsIn K mainGlobals "_law_changed" = some (some (.ref f__law_changed))) (l__law_changed : K.lookup f__law_changed = some ⟨oc__law_changed, od__law_changed, .func (PySem.W.fnOf "_law_changed" "_law_changed" (defArgs s__law_changed) (defBody s__law_changed) (defScope s__law_changed) .none kV__law_changed dc__law_changed pm__law_changed an__law_changed cd__law_changed ct__law_changed), sl__law_changed⟩) (c__law_changed : PySem.W.codeIn K cd__law_changed "_law_changed" = true) (k__law_changed : PySem.W.keepIn K (.ref f__law_changed) = true)
    (a__law_program : PySem.W.nsIn K mainGlobals "_law_program" = some (some (.ref f__law_program))) (l__law_program : K.lookup f__law_program = some ⟨oc__law_program, od__law_program, .func (PySem.W.fnOf "_law_program" "_law_program" (defArgs s__law_program) (defBody s__law_program) (defScope s__law_program) .none kV__law_program dc__law_program pm__law_program an__law_program cd__law_program ct__law_program), sl__law_program⟩) (c__law_program : PySem.W.codeIn K cd__law_program "_law_program" = true) (k__law_program : PySem.W.keepIn K (.ref f__law_program) = true)
    (a__law_shuffled : PySem.W.nsIn K mainGlobals "_law_shuffled" = some (some (.ref f__law_shuffled))) (l__law_shuffled : K.lookup f__law_shuffled = some ⟨oc__law_shuffled, od__law_shuffled, .func (PySem.W.fnOf "_law_shuffled" "_law_shuffled" (defArgs s__law_shuffled) (defBody s__law_shuffled) (defScope s__law_shuffled) .none kV__law_shuffled dc__law_shuffled pm__law_shuffled an__law_shuffled cd__law_shuffled ct__law_shuffled), sl__law_shuffled⟩) (c__law_shuffled : PySem.W.codeIn K cd__law_shuffled "_law_shuffled" = true) (k__law_shuffled : PySem.W.keepIn K (.ref f__law_shuffled) = true)
    (a__law_bowl : PySem.W.nsIn K mainGlobals "_law_bowl" = some (some (.ref f__law_bowl))) (l__law_bowl : K.lookup f__law_bowl = some ⟨oc__law_bowl, od__law_bowl, .func (PySem.W.fnOf "_law_bowl" "_law_bowl" (defArgs s__law_bowl) (defBody s__law_bowl) (defScope s__law_bowl) .none kV__law_bowl dc__law_bowl pm__law_bowl an__law_bowl cd__law_bowl ct__law_bowl), sl__law_bowl⟩) (c__law_bowl : PySem.W.codeIn K cd__law_bowl "_law_bowl" = true) (k__law_bowl : PySem.W.keepIn K (.ref f__law_bowl) = true)
    (a_law : PySem.W.nsIn K mainGlobals "law" = some (some (.ref f_law))) (l_law : K.lookup f_law = some ⟨oc_law, od_law, .func (PySem.W.fnOf "law" "law" (defArgs s_law) (defBody s_law) (defScope s_law) .none kV_law dc_law pm_law an_law cd_law ct_law), sl_law⟩) (c_law : PySem.W.codeIn K cd_law "law" = true) (k_law : PySem.W.keepIn K (.ref f_law) = true)
    (z_bool : PySem.W.nsIn K mainGlobals "bool" = some none)
    (z_int : PySem.W.nsIn K mainGlobals "int" = some none)
    (z_isinstance : PySem.W.nsIn K mainGlobals "isinstance" = some none)
    (z_len : PySem.W.nsIn K mainGlobals "len" = some none)
    (z_list : PySem.W.nsIn K mainGlobals "list" = some none)
    (z_max : PySem.W.nsIn K mainGlobals "max" = some none)
    (z_min : PySem.W.nsIn K mainGlobals "min" = some none)
    (z_range : PySem.W.nsIn K mainGlobals "range" = some none)
    (z_repr : PySem.W.nsIn K mainGlobals "repr" = some none)
    (z_sum : PySem.W.nsIn K mainGlobals "sum" = some none)
    (z_tuple : PySem.W.nsIn K mainGlobals "tuple" = some none)
    (v_CARS : PySem.W.nsIn K mainGlobals "CARS" = some (some (.int 60 t_CARS)))
    (v_MOST_DEPTH : PySem.W.nsIn K mainGlobals "MOST_DEPTH" = some (some (.int 8 t_MOST_DEPTH)))
    (v_MOST_STEPS : PySem.W.nsIn K mainGlobals "MOST_STEPS" = some (some (.int 60 t_MOST_STEPS)))
    (v_MOST_STEPS_IN_ALL : PySem.W.nsIn K mainGlobals "MOST_STEPS_IN_ALL" = some (some (.int 200 t_MOST_STEPS_IN_ALL)))
    (v_MOST_TIMES : PySem.W.nsIn K mainGlobals "MOST_TIMES" = some (some (.int 1000000000000000000000000000000 t_MOST_TIMES))) :
    ∃ fd : FuncData, (∀ (s : Shared) (v : Value), BindsTo s fd ⟨[v], []⟩ [("script", v)]) ∧ ∀ base : Heap, K.In base → base.Ns mainGlobals mg → DFn P w K mg base 17 fa fd ["script"] sp := by
  obtain ⟨T, e1, e2⟩ := top_mk X G a_is_int l_is_int c_is_int k_is_int a_in_range l_in_range c_in_range k_in_range a_is_car l_is_car c_is_car k_is_car a_steps_in l_steps_in c_steps_in k_steps_in a_is_program l_is_program c_is_program k_is_program a__law_deep l__law_deep c__law_deep k__law_deep a__law_steps l__law_steps c__law_steps k__law_steps a__law_depth l__law_depth c__law_depth k__law_depth a__law_is_form l__law_is_form c__law_is_form k__law_is_form a__law_due l__law_due c__law_due k__law_due a__law_spoon l__law_spoon c__law_spoon k__law_spoon a__law_changed l__law_changed c__law_changed k__law_changed a__law_program l__law_program c__law_program k__law_program a__law_shuffled l__law_shuffled c__law_shuffled k__law_shuffled a__law_bowl l__law_bowl c__law_bowl k__law_bowl a_law l_law c_law k_law z_bool z_int z_isinstance z_len z_list z_max z_min z_range z_repr z_sum z_tuple v_CARS v_MOST_DEPTH v_MOST_STEPS v_MOST_STEPS_IN_ALL v_MOST_TIMES
  have e := hfa.symm.trans T.g_law
  have e3 : fa = T.f_law := by injection e with e; injection e
  subst e3
  exact ⟨T.fd_law, fun s v => by rw [e2]; exact .of_eq rfl, fun base _ _ => ok base T⟩
end K35

set_option Elab.async false
set_option linter.all false
set_option maxRecDepth 100000
set_option autoImplicit false
set_option maxHeartbeats 8000000
namespace K35
open PySem PySem.Spec L2 DL PyProof.Rows
local macro_rules | `(tactic| walk_at "dl1") => `(tactic| ((first | (with_reducible apply r_seq) | (with_reducible apply r_asg) | ((with_reducible apply r_gn); try simp only [DSt.set, List.set_cons_succ, List.set_cons_zero, List.set_nil]) | ((with_reducible apply r_gtwo); try simp only [DSt.set, List.set_cons_succ, List.set_cons_zero, List.set_nil]) | ((with_reducible apply r_var); · exact rfl) | (with_reducible apply r_c) | (with_reducible apply r_op) | (with_reducible apply r_un) | (with_reducible apply r_test) | (with_reducible apply r_kTest) | (with_reducible apply r_and) | (with_reducible apply r_or) | (with_reducible apply r_not) | (with_reducible apply r_if) | (with_reducible apply r_andV) | (with_reducible apply r_orV) | (with_reducible apply r_notV) | (with_reducible apply r_chain) | (with_reducible apply r_nil) | (with_reducible apply r_cons) | (with_reducible apply r_tup) | ((with_reducible apply r_kTup); (· exact rfl); (· exact Nat.le_of_ble_eq_true rfl)) | ((with_reducible apply r_kLstC); (· exact Nat.le_of_ble_eq_true rfl)) | ((with_reducible apply r_kLst); (· exact rfl); (· exact Nat.le_of_ble_eq_true rfl)) | (with_reducible apply r_cb) | (with_reducible apply r_cmp) | (with_reducible apply r_add) | (with_reducible apply r_sub) | (with_reducible apply r_neg) | (with_reducible apply r_min) | ((with_reducible apply r_isN); · exact rfl) | ((with_reducible apply r_notN); · exact rfl) | ((with_reducible apply r_isi); · decide) | ((with_reducible apply r_len); (· exact rfl); (· exact rfl)) | (with_reducible apply r_call) | (with_reducible apply r_retI) | (with_reducible apply r_for) | (with_reducible apply r_dc) | (with_reducible apply r_iAny) | ((with_reducible apply r_kAny); · exact rfl) | (with_reducible apply r_iR1) | (with_reducible apply r_iR2) | (with_reducible apply r_iEn) | ((with_reducible apply r_kEn); · exact rfl) | (with_reducible apply r_drop) | (with_reducible apply r_retK) | (with_reducible apply r_kRet) | (with_reducible apply r_ifS) | (with_reducible apply r_next) | (with_reducible apply r_yes) | (with_reducible apply r_brk) | (with_reducible apply r_cont)) <;> try dsimp only))
local macro_rules | `(tactic| walk_at "dl") => `(tactic| (repeat walk_at "dl1"))
local macro_rules | `(tactic| walk_at "dlm") => `(tactic| ((first | walk_at "dl1" | ((first | (with_reducible apply r_bm) | (with_reducible apply r_bm0) | (with_reducible apply r_eqI) | (with_reducible apply r_neI) | (with_reducible apply r_eqS) | (with_reducible apply r_neS)) <;> try dsimp only))))
local macro_rules | `(tactic| walk_at "dx") => `(tactic| (repeat walk_at "dlm"))
local macro_rules | `(tactic| walk_at "dy1") => `(tactic| ((first | walk_at "dlm" | ((first | (with_reducible apply r_dput) | (with_reducible apply r_sl) | (with_reducible apply r_noPart) | (with_reducible apply r_part) | (with_reducible apply r_kPart) | (with_reducible apply r_rg1) | (with_reducible apply r_kRg1) | (with_reducible apply r_rg2) | (with_reducible apply r_kRg2) | (with_reducible apply r_rev) | (with_reducible apply r_lstRg) | (with_reducible apply r_tupRg) | (with_reducible apply r_newD) | (with_reducible apply r_par) | ((with_reducible apply r_kPar); try simp only [DSt.set, List.set_cons_succ, List.set_cons_zero, List.set_nil]) | (with_reducible apply r_parN) | ((with_reducible apply r_kParN); (· exact Nat.le_of_ble_eq_true rfl); (· exact rfl); (try simp only [DSt.set, DSt.new, List.set_cons_succ, List.set_cons_zero, List.set_nil, List.cons_append, List.nil_append, List.length_cons, List.length_nil, Nat.reduceAdd]))) <;> try dsimp only))))
local macro_rules | `(tactic| walk_at "dy") => `(tactic| (repeat walk_at "dy1"))
section
variable {P : Program} {w : World} {K : PySem.W.Frag}
abbrev ends (R : DV → List (Option DO) → Prop) : DEnds := { nx := fun S => R dN S.μ, rt := fun d S => R d S.μ }
def isIntD : PyData → Bool
  | .int _ => true
  | _ => false
def sp_is_int : DSp := fun ds μ R => ∃ d, ds = [.imm d] ∧ μ = [] ∧ ∀ μ', R (dB (isIntD d)) μ'
theorem go_is_int : ∀ ds μ R, sp_is_int ds μ R → t_is_int P w K (ends R) ⟨ds.map some ++ List.replicate (1 - ds.length) none, μ⟩ := by
  rintro ds μ R ⟨d, rfl, rfl, h⟩
  unfold t_is_int
  walk_at "dl"
  cases d <;> first
    | (refine r_iteF rfl ?_; walk_at "dl"; exact h _)
    | (refine r_iteT rfl ?_; walk_at "dl"; exact h _)
def sp_in_range : DSp := fun ds μ R => ∃ d lo hi, ds = [.imm d, dI lo, dI hi] ∧ μ = [] ∧ ∀ μ', R (dB (match d with | .int i => decide (lo ≤ i) && decide (i ≤ hi) | _ => false)) μ'
theorem go_in_range : ∀ ds μ R, sp_in_range ds μ R → t_in_range P w K sp_is_int (ends R) ⟨ds.map some ++ List.replicate (3 - ds.length) none, μ⟩ := by
  rintro ds μ R ⟨d, lo, hi, rfl, rfl, h⟩
  unfold t_in_range
  walk_at "dl"
  refine r_callI rfl ⟨d, rfl, rfl, fun μ' => ?_⟩
  walk_at "dl"
  cases d with
  | int i =>
    refine r_iteT rfl ?_
    walk_at "dl"
    refine r_ite (fun e => ?_) (fun e => ?_)
    · walk_at "dl"
      simpa only [e, Bool.true_and] using h []
    · walk_at "dl"
      simpa only [e, Bool.false_and] using h []
  | _ => refine r_iteF rfl ?_; walk_at "dl"; exact h _
def isCarD (d : PyData) : Bool := match d with
  | .int i => decide (0 ≤ i) && decide (i ≤ 59)
  | _ => false
def sp_is_car : DSp := fun ds μ R => ∃ d, ds = [.imm d] ∧ μ = [] ∧ ∀ μ', R (dB (isCarD d)) μ'
theorem go_is_car : ∀ ds μ R, sp_is_car ds μ R → t_is_car P w K sp_in_range (ends R) ⟨ds.map some ++ List.replicate (1 - ds.length) none, μ⟩ := by
  rintro ds μ R ⟨d, rfl, rfl, h⟩
  unfold t_is_car
  walk_at "dl"
  refine r_callI rfl ⟨d, 0, 60 - 1, rfl, rfl, fun μ' => ?_⟩
  walk_at "dl"
  exact h _
/-- calls as data -/
def T (ns : List Int) : PyData := .tuple (ns.map .int)
def okC (ns : List Int) : Prop := 1 ≤ ns.length ∧ ns.length ≤ 200 ∧ ∀ x ∈ ns, 0 ≤ x ∧ x ≤ 59
theorem okC.small {ns : List Int} (h : okC ns) : ns.length < sizeLine := by
  have := h.2.1
  rw [sizeLine_eq]
  omega
theorem ones (ns : List Int) : ((ns.map PyData.int).map DV.imm).map DY.one = ns.map fun x => DY.one (dI x) := by simp
/-- a list of ints as data -/
def L (ns : List Int) : PyData := .list (ns.map .int)
theorem wt_ints : ∀ ns : List Int, (∀ x ∈ ns, 0 ≤ x ∧ x < 1000) → wtAll (ns.map PyData.int) ≤ 15 * ns.length ∧ PyData.showableAll (ns.map PyData.int) = true ∧ PyData.depthAll (ns.map PyData.int) = 0 ∧ PyData.hasDictAll (ns.map PyData.int) = false
  | [], _ => by simp [wtAll, PyData.showableAll, PyData.depthAll, PyData.hasDictAll]
  | x :: ns, h => by
    obtain ⟨h1, h2, h3, h4⟩ := wt_ints ns fun y hy => h y (List.mem_cons_of_mem _ hy)
    obtain ⟨hx0, hx1⟩ := h x List.mem_cons_self
    have hlog : x.natAbs.log2 < 10 := by
      by_cases c : x.natAbs = 0
      · rw [c]; decide
      · exact (Nat.log2_lt c).mpr (by omega)
    refine ⟨?_, ?_, ?_, ?_⟩
    · simp only [List.map_cons, wtAll, wtD, List.length_cons]
      omega
    · simp only [List.map_cons, PyData.showableAll, PyData.showable, h2, Bool.and_true, decide_eq_true_eq]
      omega
    · simp only [List.map_cons, PyData.depthAll, PyData.depth, h3, Nat.max_self]
    · simp only [List.map_cons, PyData.hasDictAll, PyData.hasDict, h4, Bool.or_self]
theorem can_T {ns : List Int} (hl : ns.length ≤ 1000) (h : ∀ x ∈ ns, 0 ≤ x ∧ x < 1000) : CanShow (T ns) := by
  obtain ⟨h1, h2, h3, h4⟩ := wt_ints ns h
  refine ⟨by simpa only [T, PyData.showable] using h2, ?_, ?_, by simpa only [T, PyData.hasDict] using h4⟩
  · simp only [T, wtD]; omega
  · simp only [T, PyData.depth]; omega
/-! ### the draws: _law_bowl, _law_spoon, _law_shuffled -/
def Sh (c x0 x1 x2 : Int) : Prop := 0 ≤ x0 ∧ 0 ≤ x1 ∧ x1 < 10 ^ 45 ∧ 0 ≤ x2 ∧ x2 ≤ c
def shD (x0 x1 x2 : Int) : DO := .lst [dI x0, dI x1, dI x2]
theorem Sh.mono {c c' x0 x1 x2 : Int} (h : Sh c x0 x1 x2) (hc : c ≤ c') : Sh c' x0 x1 x2 := ⟨h.1, h.2.1, h.2.2.1, h.2.2.2.1, Int.le_trans h.2.2.2.2 hc⟩
theorem bits_le {i : Int} (h : i.natAbs < 2 ^ 1000) : Builtin.Int.intBits i ≤ 1000 := by
  unfold Builtin.Int.intBits
  split
  · omega
  · rename_i c
    have hn : i.natAbs ≠ 0 := by
      intro z
      apply c
      have : i = 0 := by omega
      subst this
      rfl
    have := (Nat.log2_lt hn).mpr h
    omega
theorem powOk3 {i : Int} (h0 : 0 ≤ i) (h1 : i < 10 ^ 60) : PowOk i 3 := by
  refine ⟨by omega, ?_⟩
  have : i.natAbs < 2 ^ 1000 := Nat.lt_of_lt_of_le (show i.natAbs < 10 ^ 60 by omega) (by decide)
  have := bits_le this
  omega
theorem divOk {i j : Int} (h0 : 0 < j) (h1 : j < 10 ^ 60) : DivOk i j := by
  refine ⟨h0, ?_⟩
  have : j.natAbs.log2 < 1000 := (Nat.log2_lt (by omega)).mpr (Nat.lt_of_lt_of_le (show j.natAbs < 10 ^ 60 by omega) (by decide))
  omega
theorem mulSmall {i j : Int} (h0 : 0 ≤ i) (h1 : i < 10 ^ 15) : MulOk i j := .inl (.inl ⟨by omega, by omega⟩)
def sp__law_spoon : DSp := fun ds μ R => ∃ b x0 x1 x2 c, ds = [.cell 0, dI b] ∧ μ = [some (shD x0 x1 x2)] ∧ Sh c x0 x1 x2 ∧ c ≤ 10 ^ 9 ∧ 0 < b ∧ b < 10 ^ 45 ∧
  ∀ r y0 y1 y2 μ', 0 ≤ r → r < b → Sh (c + 1) y0 y1 y2 → μ'[0]? = some (some (shD y0 y1 y2)) → R (dI r) μ'
theorem go__law_spoon : ∀ ds μ R, sp__law_spoon ds μ R → t__law_spoon P w K (ends R) ⟨ds.map some ++ List.replicate (4 - ds.length) none, μ⟩ := by
  rintro ds μ R ⟨b, x0, x1, x2, c, rfl, rfl, sh, hc, b0, b1, h⟩
  obtain ⟨s0, s1, s2, s3, s4⟩ := sh
  unfold t__law_spoon
  walk_at "dy"
  refine r_atC (es := [dI x0, dI x1, dI x2]) rfl rfl ?_
  walk_at "dy"
  refine r_ite (fun e => ?_) (fun e => ?_)
  · have e : 0 < x0 := of_decide_eq_true e
    walk_at "dy"
    refine r_atC (es := [dI x0, dI x1, dI x2]) rfl rfl ?_
    walk_at "dy"
    refine r_mod b0 ?_
    walk_at "dy"
    refine r_atC (es := [dI x0, dI x1, dI x2]) rfl rfl ?_
    walk_at "dy"
    refine r_fdiv (divOk b0 (by omega)) ?_
    walk_at "dy"
    refine r_putL (es := [dI x0, dI x1, dI x2]) (i := 0) rfl rfl ?_
    walk_at "dy"
    exact h (x0 % b) (x0 / b) x1 x2 _ (Int.emod_nonneg _ (by omega)) (Int.emod_lt_of_pos _ b0) ⟨Int.ediv_nonneg s0 (by omega), s1, s2, s3, by omega⟩ rfl
  · walk_at "dy"
    refine r_atC (es := [dI x0, dI x1, dI x2]) rfl rfl ?_
    walk_at "dy"
    refine r_putL (es := [dI x0, dI x1, dI x2]) (i := 2) rfl rfl ?_
    walk_at "dy"
    refine r_atC (es := [dI x0, dI x1, dI (x2 + 1)]) rfl rfl ?_
    walk_at "dy"
    refine r_atC (es := [dI x0, dI x1, dI (x2 + 1)]) rfl rfl ?_
    walk_at "dy"
    refine r_mul (mulSmall (by omega) (by omega)) ?_
    walk_at "dy"
    have pA : (10 : Int) ^ (44 : Int).toNat = 10 ^ 44 := rfl
    have pB : (10 : Int) ^ (41 : Int).toNat = 10 ^ 41 := rfl
    refine r_pow (powOk3 (by omega) (by omega)) ?_
    walk_at "dy"
    refine r_pow (by unfold PowOk; decide) ?_
    walk_at "dy"
    rw [pA]
    refine r_mod (by omega) ?_
    walk_at "dy"
    have q0 := Int.emod_nonneg ((x1 + 160481183 * (x2 + 1)) ^ (3 : Int).toNat) (show (10 : Int) ^ 44 + 31 ≠ 0 by omega)
    have q1 := Int.emod_lt_of_pos ((x1 + 160481183 * (x2 + 1)) ^ (3 : Int).toNat) (show (0 : Int) < 10 ^ 44 + 31 by omega)
    generalize (x1 + 160481183 * (x2 + 1)) ^ (3 : Int).toNat % (10 ^ 44 + 31) = mx at q0 q1 ⊢
    refine r_atC (es := [dI x0, dI x1, dI (x2 + 1)]) rfl rfl ?_
    walk_at "dy"
    refine r_mul (mulSmall (by omega) (by omega)) ?_
    walk_at "dy"
    refine r_pow (powOk3 (by omega) (by omega)) ?_
    walk_at "dy"
    refine r_pow (by unfold PowOk; decide) ?_
    walk_at "dy"
    rw [pB]
    refine r_mod (by omega) ?_
    walk_at "dy"
    refine r_fdiv (divOk (by omega) (by omega)) ?_
    walk_at "dy"
    refine r_mod b0 ?_
    walk_at "dy"
    exact h _ x0 x1 (x2 + 1) _ (Int.emod_nonneg _ (by omega)) (Int.emod_lt_of_pos _ b0) ⟨s0, s1, s2, by omega, by omega⟩ rfl
/-! _law_shuffled -/
theorem erase_map {A B : Type} (f : A → B) : ∀ (xs : List A) (n : Nat), (xs.map f).eraseIdx n = (xs.eraseIdx n).map f
  | [], _ => by simp
  | _ :: _, 0 => rfl
  | x :: xs, n + 1 => by simp [erase_map f xs n]
theorem mem_erase {A : Type} {xs : List A} {n : Nat} {x : A} (h : x ∈ xs.eraseIdx n) : x ∈ xs := List.mem_of_mem_eraseIdx h
theorem erase_perm {A : Type} : ∀ (xs : List A) (n : Nat) (h : n < xs.length), (xs[n] :: xs.eraseIdx n).Perm xs
  | _ :: _, 0, _ => .refl _
  | x :: xs, n + 1, h => (List.Perm.swap _ _ _).trans (.cons x (erase_perm xs n (by simpa using h)))
def sp__law_shuffled : DSp := fun ds μ R => ∃ ts x0 x1 x2 c, ds = [.cell 0, .imm (L ts)] ∧ μ = [some (shD x0 x1 x2)] ∧ Sh c x0 x1 x2 ∧ c ≤ 10 ^ 8 ∧ ts.length ≤ 1000 ∧
  ∀ rs y0 y1 y2 μ', rs.Perm ts → Sh (c + ts.length) y0 y1 y2 → μ'[0]? = some (some (shD y0 y1 y2)) → R (.imm (L rs)) μ'
theorem go__law_shuffled : ∀ ds μ R, sp__law_shuffled ds μ R → t__law_shuffled P w K sp__law_spoon (ends R) ⟨ds.map some ++ List.replicate (4 - ds.length) none, μ⟩ := by
  rintro ds μ R ⟨ts, x0, x1, x2, c, rfl, rfl, sh, hc, hl, h⟩
  unfold t__law_shuffled
  walk_at "dy"
  refine r_listOfC rfl ?_
  walk_at "dy"
  refine r_lc ?_
  walk_at "dy"
  have hlen : (List.map DV.imm (List.map PyData.int ts)).length = ts.length := by simp
  rw [hlen]
  refine r_kR1 (by omega) ?_
  refine ⟨fun i acc μ => ∃ (rs left : List Int) (z0 z1 z2 : Int), acc = rs.map PyData.int ∧ rs.length = i ∧ (rs ++ left).Perm ts ∧ Sh (c + i) z0 z1 z2 ∧ μ = [some (shD z0 z1 z2), some (.lst (left.map dI))],
    ⟨[], ts, x0, x1, x2, rfl, rfl, .refl _, by simpa using sh, by simp [DSt.new]⟩, fun _ _ _ _ _ => True.intro, ?_, by rw [range_len, Int.toNat_natCast, sizeLine_eq]; omega, ?_⟩
  · rintro i y acc μ hy ⟨rs, left, z0, z1, z2, rfl, h1, h2, h5, rfl⟩
    obtain ⟨hi, rfl⟩ := range_get hy
    rw [Int.toNat_natCast] at hi
    have h3 : left.length + i = ts.length := by have := h2.length_eq; rw [List.length_append] at this; omega
    walk_at "dy"
    refine r_iteT rfl ?_
    walk_at "dy"
    refine r_kM (es := left.map dI) rfl ?_
    walk_at "dy"
    refine r_callC (k := 0) (o := shD z0 z1 z2) (es' := [.cell 0, dI ((left.map dI).length : Int)]) (by simp) rfl rfl ?_
    refine ⟨_, z0, z1, z2, c + i, rfl, rfl, h5, by omega, by rw [List.length_map]; omega, by rw [List.length_map]; omega, fun r y0 y1 y2 μ' r0 r1 sh' hm => ?_⟩
    refine r_retC (o := shD y0 y1 y2) rfl hm ?_
    rw [List.length_map] at r1
    walk_at "dy"
    have hr : r.toNat < left.length := by omega
    refine r_popAt (es := left.map dI) (d := dI left[r.toNat]) rfl r0 (by omega) (by rw [List.getElem?_map, List.getElem?_eq_getElem hr]; rfl) ?_
    refine ⟨rs ++ [left[r.toNat]], left.eraseIdx r.toNat, y0, y1, y2, by simp, by simp [h1], ?_, ?_, ?_⟩
    · rw [List.append_assoc]
      exact ((erase_perm left r.toNat hr).append_left rs).trans h2
    · have : c + ((i + 1 : Nat) : Int) = c + (i : Int) + 1 := by omega
      rw [this]; exact sh'
    · show [some (shD y0 y1 y2), some (DO.lst ((left.map dI).eraseIdx r.toNat))] = _
      rw [erase_map]
  · rintro acc μ ⟨rs, left, z0, z1, z2, rfl, h1, h2, h5, rfl⟩
    rw [range_len, Int.toNat_natCast] at h1 h5
    have h3 : left = [] := by
      have := h2.length_eq
      rw [List.length_append] at this
      exact List.length_eq_zero_iff.mp (by omega)
    subst h3
    rw [List.append_nil] at h2
    walk_at "dy"
    exact h rs z0 z1 z2 _ h2 h5 rfl
/-! ### _law_bowl -/
def sp__law_bowl : DSp := fun ds μ R => ∃ ns k, ds = [.scr ns, dI k] ∧ μ = [] ∧ 0 ≤ k ∧ k ≤ 100 ∧ ∀ x0 x1 x2 μ', Sh 0 x0 x1 x2 → μ'[0]? = some (some (shD x0 x1 x2)) → R (.cell 0) μ'
theorem go__law_bowl : ∀ ds μ R, sp__law_bowl ds μ R → t__law_bowl P w K (ends R) ⟨ds.map some ++ List.replicate (3 - ds.length) none, μ⟩ := by
  rintro ds μ R ⟨ns, k, rfl, rfl, k0, k1, h⟩
  unfold t__law_bowl
  simp only [List.map_cons, List.map_nil, List.length_cons, List.length_nil, Nat.reduceAdd, Nat.reduceSub, List.replicate, List.cons_append, List.nil_append]
  walk_at "dy"
  have fin : ∀ c : Int, dRetW P w K
          (dLstX
            (dCons
              (dCB (gII2 fun i j => if j > i then j else i)
                (dCons (dC (dI 0)) (dCons (dOp DL.gSub (dVar 2) (dOp gPow (dC (dI 10)) (dC (dI 18)))) dNil)))
              (dCons
                (dOp (gOr gAdd gAddC)
                  (dOp (gOr gMul gMulC)
                    (dOp gMod (dVar 2) (dOp (gOr gAdd gAddC) (dOp gPow (dC (dI 10)) (dC (dI 39))) (dC (dI 3))))
                    (dC (dI 1024)))
                  (dVar 1))
                (dCons (dC (dI 0)) dNil))))
          (ends R) ⟨[some (.scr ns), some (dI k), some (dI c)], []⟩ := by
    intro c
    walk_at "dy"
    refine r_lstC ?_
    walk_at "dy"
    refine r_pow (by unfold PowOk; decide) ?_
    walk_at "dy"
    refine r_pow (by unfold PowOk; decide) ?_
    walk_at "dy"
    have p38 : (10 : Int) ^ (39 : Int).toNat = 10 ^ 39 := rfl
    have p18 : (10 : Int) ^ (18 : Int).toNat = 10 ^ 18 := rfl
    rw [p38, p18]
    have q0 := Int.emod_nonneg c (show (10 : Int) ^ 39 + 3 ≠ 0 by omega)
    have q1 := Int.emod_lt_of_pos c (show (0 : Int) < 10 ^ 39 + 3 by omega)
    refine r_mod (by omega) ?_
    walk_at "dy"
    refine r_mul (.inl (.inr ⟨by omega, by omega⟩)) ?_
    walk_at "dy"
    refine h _ _ _ _ ⟨?_, ?_, ?_, ?_, ?_⟩ rfl
    · split <;> omega
    · omega
    · omega
    · omega
    · omega
  refine r_ite (fun e => ?_) (fun e => ?_)
  · have e : k < ((List.map (fun n => DV.imm (.int n)) ns).length : Int) := of_decide_eq_true e
    rw [List.length_map] at e
    have hk : k.toNat < ns.length := by omega
    walk_at "dy"
    refine r_at (e := dI ns[k.toNat]) rfl rfl ?_ ?_
    · have : atI (ns.map fun n => DV.imm (.int n)) ((k.toNat : Nat) : Int) = some (dI ns[k.toNat]) := atI_nat (by rw [List.getElem?_map, List.getElem?_eq_getElem hk]; rfl)
      rwa [show ((k.toNat : Nat) : Int) = k by omega] at this
    exact fin _
  · walk_at "dy"
    exact fin _

end
end K35

set_option Elab.async false
set_option linter.all false
set_option maxRecDepth 100000
set_option autoImplicit false
set_option maxHeartbeats 8000000
namespace K35
open PySem PySem.Spec L2 DL PyProof.Rows
local macro_rules | `(tactic| walk_at "dl1") => `(tactic| ((first | (with_reducible apply r_seq) | (with_reducible apply r_asg) | ((with_reducible apply r_gn); try simp only [DSt.set, List.set_cons_succ, List.set_cons_zero, List.set_nil]) | ((with_reducible apply r_gtwo); try simp only [DSt.set, List.set_cons_succ, List.set_cons_zero, List.set_nil]) | ((with_reducible apply r_var); · exact rfl) | (with_reducible apply r_c) | (with_reducible apply r_op) | (with_reducible apply r_un) | (with_reducible apply r_test) | (with_reducible apply r_kTest) | (with_reducible apply r_and) | (with_reducible apply r_or) | (with_reducible apply r_not) | (with_reducible apply r_if) | (with_reducible apply r_andV) | (with_reducible apply r_orV) | (with_reducible apply r_notV) | (with_reducible apply r_chain) | (with_reducible apply r_nil) | (with_reducible apply r_cons) | (with_reducible apply r_tup) | ((with_reducible apply r_kTup); (· exact rfl); (· exact Nat.le_of_ble_eq_true rfl)) | ((with_reducible apply r_kLstC); (· exact Nat.le_of_ble_eq_true rfl)) | ((with_reducible apply r_kLst); (· exact rfl); (· exact Nat.le_of_ble_eq_true rfl)) | (with_reducible apply r_cb) | (with_reducible apply r_cmp) | (with_reducible apply r_add) | (with_reducible apply r_sub) | (with_reducible apply r_neg) | (with_reducible apply r_min) | ((with_reducible apply r_isN); · exact rfl) | ((with_reducible apply r_notN); · exact rfl) | ((with_reducible apply r_isi); · decide) | ((with_reducible apply r_len); (· exact rfl); (· exact rfl)) | (with_reducible apply r_call) | (with_reducible apply r_retI) | (with_reducible apply r_for) | (with_reducible apply r_dc) | (with_reducible apply r_iAny) | ((with_reducible apply r_kAny); · exact rfl) | (with_reducible apply r_iR1) | (with_reducible apply r_iR2) | (with_reducible apply r_iEn) | ((with_reducible apply r_kEn); · exact rfl) | (with_reducible apply r_drop) | (with_reducible apply r_retK) | (with_reducible apply r_kRet) | (with_reducible apply r_ifS) | (with_reducible apply r_next) | (with_reducible apply r_yes) | (with_reducible apply r_brk) | (with_reducible apply r_cont)) <;> try dsimp only))
local macro_rules | `(tactic| walk_at "dl") => `(tactic| (repeat walk_at "dl1"))
local macro_rules | `(tactic| walk_at "dlm") => `(tactic| ((first | walk_at "dl1" | ((first | (with_reducible apply r_bm) | (with_reducible apply r_bm0) | (with_reducible apply r_eqI) | (with_reducible apply r_neI) | (with_reducible apply r_eqS) | (with_reducible apply r_neS)) <;> try dsimp only))))
local macro_rules | `(tactic| walk_at "dx") => `(tactic| (repeat walk_at "dlm"))
local macro_rules | `(tactic| walk_at "dy1") => `(tactic| ((first | walk_at "dlm" | ((first | (with_reducible apply r_dput) | (with_reducible apply r_sl) | (with_reducible apply r_noPart) | (with_reducible apply r_part) | (with_reducible apply r_kPart) | (with_reducible apply r_rg1) | (with_reducible apply r_kRg1) | (with_reducible apply r_rg2) | (with_reducible apply r_kRg2) | (with_reducible apply r_rev) | (with_reducible apply r_lstRg) | (with_reducible apply r_tupRg) | (with_reducible apply r_newD) | (with_reducible apply r_par) | ((with_reducible apply r_kPar); try simp only [DSt.set, List.set_cons_succ, List.set_cons_zero, List.set_nil]) | (with_reducible apply r_parN) | ((with_reducible apply r_kParN); (· exact Nat.le_of_ble_eq_true rfl); (· exact rfl); (try simp only [DSt.set, DSt.new, List.set_cons_succ, List.set_cons_zero, List.set_nil, List.cons_append, List.nil_append, List.length_cons, List.length_nil, Nat.reduceAdd]))) <;> try dsimp only))))
local macro_rules | `(tactic| walk_at "dy") => `(tactic| (repeat walk_at "dy1"))
section
variable {P : Program} {w : World} {K : PySem.W.Frag}
/-! ### plain: programs -/
def optN : Option Nat → PyData
  | some n => .int n
  | none => .none
def isTimes : PyData → Bool
  | .int i => decide (1 ≤ i) && decide (i ≤ 1000000000000000000000000000000)
  | _ => false
def stepO (f : PyData → Option Nat) : PyData → Option Nat
  | .tuple [t, p] => if isTimes t = true then f p else none
  | _ => none
def foldO (f : PyData → Option Nat) : List PyData → Nat → Option Nat
  | [], a => some a
  | s :: r, a => if isCarD s = true then foldO f r a else (stepO f s).bind fun k => foldO f r (a + k)
theorem foldO_car {f : PyData → Option Nat} {s : PyData} {r : List PyData} {a : Nat} (h : isCarD s = true) : foldO f (s :: r) a = foldO f r a := if_pos h
theorem foldO_step {f : PyData → Option Nat} {s : PyData} {r : List PyData} {a : Nat} (h : isCarD s = false) : foldO f (s :: r) a = (stepO f s).bind fun k => foldO f r (a + k) := if_neg (by rw [h]; decide)
theorem rng_times (t : PyData) : (match t with | .int i => decide ((1 : Int) ≤ i) && decide (i ≤ 1000000000000000000000000000000) | _ => false) = isTimes t := by cases t <;> rfl
def stepsD : Nat → PyData → Option Nat
  | 0, _ => none
  | n + 1, v => match v with
    | .tuple xs => if 1 ≤ xs.length ∧ xs.length ≤ 60 then foldO (stepsD n) xs xs.length else none
    | _ => none
def formS (f : PyData → Bool) (s : PyData) : Bool := match s with
  | .tuple [t, p] => isTimes t && f p
  | .int i => decide (0 ≤ i) && decide (i ≤ 59)
  | _ => false
def formD : Nat → PyData → Bool
  | 0, _ => false
  | n + 1, v => match v with
    | .tuple xs => decide (1 ≤ xs.length ∧ xs.length ≤ 60) && xs.all (formS (formD n))
    | _ => false
def isTup : PyData → Bool
  | .tuple _ => true
  | _ => false
def sndP : PyData → PyData
  | .tuple (_ :: p :: _) => p
  | _ => .none
def innerL (xs : List PyData) : List PyData := (xs.filter isTup).map sndP
def maxN (l : List Nat) : Nat := l.foldr max 0
def depthD : Nat → PyData → Nat
  | 0, _ => 1
  | n + 1, v => match v with
    | .tuple xs => 1 + maxN ((innerL xs).map (depthD n))
    | _ => 1
def sumD : Nat → PyData → Nat
  | 0, _ => 0
  | n + 1, v => match v with
    | .tuple xs => xs.length + ((innerL xs).map (sumD n)).sum
    | _ => 0
theorem depth_mem : ∀ {xs : List PyData} {s : PyData}, s ∈ xs → s.depth ≤ PyData.depthAll xs
  | [], _, h => by cases h
  | x :: xs, s, h => by
    rw [PyData.depthAll]
    rcases List.mem_cons.mp h with e | h
    · rw [e]; omega
    · have := depth_mem h; omega
theorem depth_tup (xs : List PyData) : (PyData.tuple xs).depth = 1 + PyData.depthAll xs := by rw [PyData.depth, Nat.add_comm]
theorem inner_cons_tup {t p : PyData} {xs : List PyData} : innerL (.tuple [t, p] :: xs) = p :: innerL xs := rfl
theorem max_le {l : List Nat} {n : Nat} : maxN l ≤ n ↔ ∀ x ∈ l, x ≤ n := by
  induction l with
  | nil => exact ⟨fun _ x h => (by cases h), fun _ => Nat.zero_le _⟩
  | cons a l ih =>
    show max a (maxN l) ≤ n ↔ _
    rw [Nat.max_le, ih]
    simp
theorem fold_eq {f n : Nat} (ih : ∀ v : PyData, v.depth < 2 * f → stepsD n v = if formD f v = true ∧ depthD f v ≤ n then some (sumD f v) else none) : ∀ (xs : List PyData) (a : Nat), (∀ s ∈ xs, s.depth < 2 * f + 1) →
    foldO (stepsD n) xs a = if xs.all (formS (formD f)) = true ∧ ∀ p ∈ innerL xs, depthD f p ≤ n then some (a + ((innerL xs).map (sumD f)).sum) else none
  | [], a, _ => by simp [foldO, innerL]
  | s :: xs, a, hs => by
    have rc := fun b => fold_eq ih xs b fun s' h => hs s' (List.mem_cons_of_mem _ h)
    have h0 := hs s List.mem_cons_self
    cases s with
    | int i =>
      have e1 : innerL (.int i :: xs) = innerL xs := rfl
      rw [e1, List.all_cons]
      by_cases c : isCarD (.int i) = true
      · have c' : formS (formD f) (.int i) = true := c
        rw [foldO_car c, rc, c', Bool.true_and]
      · have c' : formS (formD f) (.int i) = false := by simpa [isCarD, formS] using c
        rw [foldO_step (by simpa using c), c', if_neg (by simp)]
        rfl
    | tuple ys =>
      have no : ∀ zs : List PyData, (∀ t p, zs ≠ [t, p]) → foldO (stepsD n) (.tuple zs :: xs) a = none ∧ formS (formD f) (.tuple zs) = false := fun zs hz => by
        match zs, hz with
        | [], _ => exact ⟨rfl, rfl⟩
        | [_], _ => exact ⟨rfl, rfl⟩
        | [t, p], hz => exact absurd rfl (hz t p)
        | _ :: _ :: _ :: _, _ => exact ⟨rfl, rfl⟩
      by_cases hz : ∃ t p, ys = [t, p]
      · obtain ⟨t, p, rfl⟩ := hz
        rw [depth_tup] at h0
        have hp : p.depth < 2 * f := by
          have := depth_mem (xs := [t, p]) (s := p) (by simp)
          omega
        rw [inner_cons_tup, List.all_cons]
        rw [foldO_step rfl, show stepO (stepsD n) (.tuple [t, p]) = if isTimes t = true then stepsD n p else none from rfl, ih p hp]
        by_cases c : isTimes t = true
        · rw [if_pos c]
          by_cases c2 : formD f p = true ∧ depthD f p ≤ n
          · rw [if_pos c2]
            rw [Option.bind_some, rc]
            have e : formS (formD f) (.tuple [t, p]) = true := by show (isTimes t && formD f p) = true; rw [c, c2.1]; rfl
            rw [e, Bool.true_and, List.map_cons, List.sum_cons]
            by_cases c3 : xs.all (formS (formD f)) = true ∧ ∀ p ∈ innerL xs, depthD f p ≤ n
            · rw [if_pos c3, if_pos ⟨c3.1, fun q hq => by
                rcases List.mem_cons.mp hq with z | z
                · rw [z]; exact c2.2
                · exact c3.2 q z⟩, Nat.add_assoc]
            · rw [if_neg c3, if_neg fun z => c3 ⟨z.1, fun q hq => z.2 q (List.mem_cons_of_mem _ hq)⟩]
          · rw [if_neg c2, Option.bind_none, if_neg]
            rintro ⟨z1, z2⟩
            rw [Bool.and_eq_true] at z1
            have : (isTimes t && formD f p) = true := z1.1
            rw [Bool.and_eq_true] at this
            exact c2 ⟨this.2, z2 p List.mem_cons_self⟩
        · rw [if_neg c, Option.bind_none, if_neg]
          rintro ⟨z1, z2⟩
          rw [Bool.and_eq_true] at z1
          have : (isTimes t && formD f p) = true := z1.1
          rw [Bool.and_eq_true] at this
          exact c this.1
      · obtain ⟨a1, a2⟩ := no ys fun t p e => hz ⟨t, p, e⟩
        rw [a1, List.all_cons, a2, if_neg (by simp)]
    | none => rw [foldO_step rfl, List.all_cons, if_neg (by simp [formS])]; rfl
    | bool b => rw [foldO_step rfl, List.all_cons, if_neg (by simp [formS])]; rfl
    | str x => rw [foldO_step rfl, List.all_cons, if_neg (by simp [formS])]; rfl
    | list x => rw [foldO_step rfl, List.all_cons, if_neg (by simp [formS])]; rfl
    | dict x => rw [foldO_step rfl, List.all_cons, if_neg (by simp [formS])]; rfl
/-- both ways to judge a program -/
theorem steps_eq : ∀ (f n : Nat) (v : PyData), v.depth < 2 * f → stepsD n v = if formD f v = true ∧ depthD f v ≤ n then some (sumD f v) else none
  | 0, _, _, h => absurd h (Nat.not_lt_zero _)
  | f + 1, 0, v, _ => by
    have : 1 ≤ depthD (f + 1) v := by unfold depthD; split <;> omega
    rw [if_neg fun z => by omega]
    rfl
  | f + 1, n + 1, v, h => by
    cases v with
    | tuple xs =>
      rw [depth_tup] at h
      show (if 1 ≤ xs.length ∧ xs.length ≤ 60 then foldO (stepsD n) xs xs.length else none) = _
      have ef : formD (f + 1) (.tuple xs) = (decide (1 ≤ xs.length ∧ xs.length ≤ 60) && xs.all (formS (formD f))) := rfl
      have ed : depthD (f + 1) (.tuple xs) = 1 + maxN ((innerL xs).map (depthD f)) := rfl
      have es : sumD (f + 1) (.tuple xs) = xs.length + ((innerL xs).map (sumD f)).sum := rfl
      rw [ef, ed, es]
      by_cases c : 1 ≤ xs.length ∧ xs.length ≤ 60
      · rw [if_pos c, fold_eq (fun v hv => steps_eq f n v hv) xs _ fun s hs => by have := depth_mem hs; omega, decide_eq_true c, Bool.true_and]
        have e : (1 + maxN ((innerL xs).map (depthD f)) ≤ n + 1) ↔ ∀ p ∈ innerL xs, depthD f p ≤ n := by
          rw [Nat.add_comm, Nat.add_le_add_iff_right, max_le]
          simp
        simp only [e]
      · rw [if_neg c, decide_eq_false c, Bool.false_and, if_neg fun z => by cases z.1]
    | _ => rw [if_neg fun z => by cases z.1]; rfl

end
end K35

set_option Elab.async false
set_option linter.all false
set_option maxRecDepth 100000
set_option autoImplicit false
set_option maxHeartbeats 8000000
namespace K35
open PySem PySem.Spec L2 DL PyProof.Rows
local macro_rules | `(tactic| walk_at "dl1") => `(tactic| ((first | (with_reducible apply r_seq) | (with_reducible apply r_asg) | ((with_reducible apply r_gn); try simp only [DSt.set, List.set_cons_succ, List.set_cons_zero, List.set_nil]) | ((with_reducible apply r_gtwo); try simp only [DSt.set, List.set_cons_succ, List.set_cons_zero, List.set_nil]) | ((with_reducible apply r_var); · exact rfl) | (with_reducible apply r_c) | (with_reducible apply r_op) | (with_reducible apply r_un) | (with_reducible apply r_test) | (with_reducible apply r_kTest) | (with_reducible apply r_and) | (with_reducible apply r_or) | (with_reducible apply r_not) | (with_reducible apply r_if) | (with_reducible apply r_andV) | (with_reducible apply r_orV) | (with_reducible apply r_notV) | (with_reducible apply r_chain) | (with_reducible apply r_nil) | (with_reducible apply r_cons) | (with_reducible apply r_tup) | ((with_reducible apply r_kTup); (· exact rfl); (· exact Nat.le_of_ble_eq_true rfl)) | ((with_reducible apply r_kLstC); (· exact Nat.le_of_ble_eq_true rfl)) | ((with_reducible apply r_kLst); (· exact rfl); (· exact Nat.le_of_ble_eq_true rfl)) | (with_reducible apply r_cb) | (with_reducible apply r_cmp) | (with_reducible apply r_add) | (with_reducible apply r_sub) | (with_reducible apply r_neg) | (with_reducible apply r_min) | ((with_reducible apply r_isN); · exact rfl) | ((with_reducible apply r_notN); · exact rfl) | ((with_reducible apply r_isi); · decide) | ((with_reducible apply r_len); (· exact rfl); (· exact rfl)) | (with_reducible apply r_call) | (with_reducible apply r_retI) | (with_reducible apply r_for) | (with_reducible apply r_dc) | (with_reducible apply r_iAny) | ((with_reducible apply r_kAny); · exact rfl) | (with_reducible apply r_iR1) | (with_reducible apply r_iR2) | (with_reducible apply r_iEn) | ((with_reducible apply r_kEn); · exact rfl) | (with_reducible apply r_drop) | (with_reducible apply r_retK) | (with_reducible apply r_kRet) | (with_reducible apply r_ifS) | (with_reducible apply r_next) | (with_reducible apply r_yes) | (with_reducible apply r_brk) | (with_reducible apply r_cont)) <;> try dsimp only))
local macro_rules | `(tactic| walk_at "dl") => `(tactic| (repeat walk_at "dl1"))
local macro_rules | `(tactic| walk_at "dlm") => `(tactic| ((first | walk_at "dl1" | ((first | (with_reducible apply r_bm) | (with_reducible apply r_bm0) | (with_reducible apply r_eqI) | (with_reducible apply r_neI) | (with_reducible apply r_eqS) | (with_reducible apply r_neS)) <;> try dsimp only))))
local macro_rules | `(tactic| walk_at "dx") => `(tactic| (repeat walk_at "dlm"))
local macro_rules | `(tactic| walk_at "dy1") => `(tactic| ((first | walk_at "dlm" | ((first | (with_reducible apply r_dput) | (with_reducible apply r_sl) | (with_reducible apply r_noPart) | (with_reducible apply r_part) | (with_reducible apply r_kPart) | (with_reducible apply r_rg1) | (with_reducible apply r_kRg1) | (with_reducible apply r_rg2) | (with_reducible apply r_kRg2) | (with_reducible apply r_rev) | (with_reducible apply r_lstRg) | (with_reducible apply r_tupRg) | (with_reducible apply r_newD) | (with_reducible apply r_par) | ((with_reducible apply r_kPar); try simp only [DSt.set, List.set_cons_succ, List.set_cons_zero, List.set_nil]) | (with_reducible apply r_parN) | ((with_reducible apply r_kParN); (· exact Nat.le_of_ble_eq_true rfl); (· exact rfl); (try simp only [DSt.set, DSt.new, List.set_cons_succ, List.set_cons_zero, List.set_nil, List.cons_append, List.nil_append, List.length_cons, List.length_nil, Nat.reduceAdd]))) <;> try dsimp only))))
local macro_rules | `(tactic| walk_at "dy") => `(tactic| (repeat walk_at "dy1"))
section
variable {P : Program} {w : World} {K : PySem.W.Frag}
/-! ### steps_in, is_program -/
def spN_steps_in (d : Nat) : DSp := fun ds μ R => ∃ v, ∃ n : Nat, ds = [.imm v, dI n] ∧ μ = [] ∧ n < d ∧ ∀ μ', R (.imm (optN (stepsD n v))) μ'
theorem goN_steps_in (d : Nat) : ∀ ds μ R, spN_steps_in (d + 1) ds μ R → t_steps_in P w K sp_is_car (spN_steps_in d) sp_in_range (ends R) ⟨ds.map some ++ List.replicate (5 - ds.length) none, μ⟩ := by
  rintro ds μ R ⟨v, n, rfl, rfl, hd, h⟩
  unfold t_steps_in
  simp only [List.map_cons, List.map_nil, List.length_cons, List.length_nil, Nat.reduceAdd, Nat.reduceSub, List.replicate, List.cons_append, List.nil_append]
  walk_at "dy"
  cases n with
  | zero =>
    refine r_iteT rfl ?_
    refine r_iteT rfl ?_
    walk_at "dy"
    exact h []
  | succ n =>
    refine r_iteF (by simp; omega) ?_
    walk_at "dy"
    cases v with
    | tuple xs =>
      refine r_iteF rfl ?_
      walk_at "dy"
      have hl : (List.map DV.imm xs).length = xs.length := by simp
      rw [hl]
      have es : stepsD (n + 1) (.tuple xs) = if 1 ≤ xs.length ∧ xs.length ≤ 60 then foldO (stepsD n) xs xs.length else none := rfl
      rw [es] at h
      by_cases c : 1 ≤ xs.length ∧ xs.length ≤ 60
      · rw [if_pos c] at h
        refine r_iteT (by simp; omega) ?_
        walk_at "dy"
        refine r_iteF (by simp; omega) ?_
        walk_at "dy"
        rw [hl]
        refine ⟨fun i S => ∃ (acc : Nat) (z3 z4 : Option DV), S = ⟨[some (.imm (.tuple xs)), some (dI (n + 1 : Nat)), some (dI acc), z3, z4], []⟩ ∧ foldO (stepsD n) xs xs.length = foldO (stepsD n) (xs.drop i) acc, ⟨_, _, _, rfl, by rw [List.drop_zero]⟩, fun _ _ _ _ => True.intro, ?_, ?_⟩
        · rintro i y S2 hy ⟨acc, z3, z4, rfl, hf⟩
          rw [List.map_map, List.getElem?_map] at hy
          obtain ⟨s, hs, rfl⟩ := Option.map_eq_some_iff.mp hy
          have hd2 : xs.drop i = s :: xs.drop (i + 1) := by
            have := (List.getElem?_eq_some_iff.mp hs)
            rw [List.drop_eq_getElem_cons this.1, this.2]
          rw [hd2] at hf
          change dgName 3 (DY.one (.imm s)) _ _
          walk_at "dy"
          refine r_callI rfl ⟨s, rfl, rfl, fun μ' => ?_⟩
          walk_at "dy"
          by_cases cs : isCarD s = true
          · rw [cs]
            refine r_iteF rfl ?_
            walk_at "dy"
            exact ⟨acc, _, _, rfl, by rw [hf, foldO_car cs]⟩
          · have cs : isCarD s = false := by simpa using cs
            rw [cs]
            refine r_iteT rfl ?_
            walk_at "dy"
            rw [foldO_step cs] at hf
            -- the forms of a step
            cases s with
            | tuple ys =>
              refine r_iteF rfl ?_
              walk_at "dy"
              have hly : ((List.map DV.imm ys).length : Int) = (ys.length : Int) := by simp
              rw [hly]
              by_cases c2 : ys.length = 2
              · obtain ⟨t, p, rfl⟩ : ∃ t p, ys = [t, p] := by
                  match ys, c2 with
                  | [t, p], _ => exact ⟨t, p, rfl⟩
                refine r_iteF rfl ?_
                walk_at "dy"
                refine r_at (e := .imm t) rfl rfl rfl ?_
                walk_at "dy"
                refine r_callI rfl ⟨t, 1, 1000000000000000000000000000000, rfl, rfl, fun μ' => ?_⟩
                walk_at "dy"
                by_cases c3 : isTimes t = true
                · refine r_iteF (show (!isTimes t) = false by rw [c3]; rfl) ?_
                  walk_at "dy"
                  refine r_at (e := .imm p) rfl rfl rfl ?_
                  walk_at "dy"
                  refine r_callI rfl ⟨p, n, ?_, rfl, by omega, fun μ' => ?_⟩
                  · congr 3
                    omega
                  have so : stepO (stepsD n) (.tuple [t, p]) = stepsD n p := if_pos c3
                  rw [so] at hf
                  cases e : stepsD n p with
                  | none =>
                    rw [e] at hf
                    walk_at "dy"
                    refine r_iteT rfl ?_
                    walk_at "dy"
                    rw [hf] at h
                    exact h []
                  | some k =>
                    rw [e] at hf
                    walk_at "dy"
                    refine r_iteF rfl ?_
                    walk_at "dy"
                    refine r_aug rfl ?_
                    walk_at "dy"
                    change gII _ _ (dI (acc : Nat)) (dI (k : Nat)) _ _
                    refine r_gII ?_
                    refine ⟨acc + k, some (.imm (.tuple [t, p])), some (.imm (optN (some k))), ?_, by rw [hf]; rfl⟩
                    rw [show ((acc + k : Nat) : Int) = (acc : Int) + (k : Int) by omega]
                    rfl
                · have c3 : isTimes t = false := by simpa using c3
                  refine r_iteT (show (!isTimes t) = true by rw [c3]; rfl) ?_
                  walk_at "dy"
                  have so : stepO (stepsD n) (.tuple [t, p]) = none := if_neg (by rw [c3]; decide)
                  rw [so] at hf
                  rw [hf] at h
                  exact h []
              · refine r_iteT (by simp; omega) ?_
                refine r_iteT rfl ?_
                walk_at "dy"
                have so : stepO (stepsD n) (.tuple ys) = none := by
                  match ys, c2 with
                  | [], _ => rfl
                  | [_], _ => rfl
                  | [_, _], c => exact absurd rfl c
                  | _ :: _ :: _ :: _, _ => rfl
                rw [so] at hf
                rw [hf] at h
                exact h []
            | _ =>
              refine r_iteT rfl ?_
              refine r_iteT rfl ?_
              walk_at "dy"
              rw [hf] at h
              exact h []
        · rintro S2 ⟨acc, z3, z4, rfl, hf⟩
          walk_at "dy"
          have := h []
          rw [hf, List.length_map, List.length_map, List.drop_length] at this
          exact this
      · rw [if_neg c] at h
        by_cases c1 : 1 ≤ xs.length
        · refine r_iteT (by simp; omega) ?_
          walk_at "dy"
          refine r_iteT (by simp; omega) ?_
          walk_at "dy"
          exact h []
        · refine r_iteF (by simp; omega) ?_
          walk_at "dy"
          refine r_iteT rfl ?_
          walk_at "dy"
          exact h []
    | _ =>
      refine r_iteT rfl ?_
      refine r_iteT rfl ?_
      walk_at "dy"
      exact h []
theorem no_steps_in : ∀ ds μ R, ¬ spN_steps_in 0 ds μ R := fun ds μ R ⟨_, _, _, _, h, _⟩ => Nat.not_lt_zero _ h
abbrev sp_steps_in : DSp := spN_steps_in 12
def okPr (v : PyData) : Bool := match stepsD 8 v with | some k => decide (k ≤ 200) | none => false
def sp_is_program : DSp := fun ds μ R => ∃ v, ds = [.imm v] ∧ μ = [] ∧ ∀ μ', R (dB (okPr v)) μ'
theorem go_is_program : ∀ ds μ R, sp_is_program ds μ R → t_is_program P w K sp_steps_in (ends R) ⟨ds.map some ++ List.replicate (2 - ds.length) none, μ⟩ := by
  rintro ds μ R ⟨v, rfl, rfl, h⟩
  unfold okPr at h
  unfold t_is_program
  walk_at "dy"
  refine r_callI rfl ⟨v, 8, rfl, rfl, by omega, fun μ' => ?_⟩
  cases e : stepsD 8 v with
  | none =>
    rw [e] at h
    walk_at "dy"
    refine r_iteF rfl ?_
    walk_at "dy"
    exact h []
  | some k =>
    rw [e] at h
    walk_at "dy"
    refine r_iteT rfl ?_
    walk_at "dy"
    change gCmp _ (dI (k : Nat)) _ _ _
    walk_at "dy"
    have : R (dB (decide (k ≤ 200))) [] := h []
    rw [show decide (k ≤ 200) = decide ((k : Int) ≤ 200) by rw [decide_eq_decide]; omega] at this
    exact this
/-! ### _law_deep -/
def deepP : Nat → PyData
  | 0 => .tuple [.int 5]
  | n + 1 => .tuple [.tuple [.int 2, deepP n], .int 6]
def sp__law_deep : DSp := fun ds μ R => ∃ n : Nat, ds = [dI n] ∧ μ = [] ∧ 1 ≤ n ∧ n ≤ 20 ∧ ∀ μ', R (.imm (deepP (n - 1))) μ'
theorem go__law_deep : ∀ ds μ R, sp__law_deep ds μ R → t__law_deep P w K (ends R) ⟨ds.map some ++ List.replicate (3 - ds.length) none, μ⟩ := by
  rintro ds μ R ⟨n, rfl, rfl, n1, n2, h⟩
  unfold t__law_deep
  walk_at "dy"
  refine r_kR1 (by omega) ?_
  refine ⟨fun i S => ∃ z2, S = ⟨[some (dI n), some (.imm (deepP i)), z2], []⟩, ⟨none, rfl⟩, fun _ _ _ _ => True.intro, ?_, ?_⟩
  · rintro i y S2 hy ⟨z2, rfl⟩
    obtain ⟨hi, rfl⟩ := range_get hy
    walk_at "dy"
    exact ⟨_, rfl⟩
  · rintro S2 ⟨z2, rfl⟩
    rw [range_len]
    walk_at "dy"
    have := h []
    rw [show ((n : Int) - 1).toNat = n - 1 by omega]
    exact this
/-! ### _law_is_form, _law_steps, _law_depth, _law_due -/
theorem all_take {A : Type} {g : A → Bool} {xs : List A} {i : Nat} {s : A} (hs : xs[i]? = some s) (h : (xs.take i).all g = true) (hg : g s = true) : (xs.take (i + 1)).all g = true := by
  rw [List.take_add_one, hs, List.all_append, h]
  simp [hg]
theorem all_no {A : Type} {g : A → Bool} {xs : List A} {i : Nat} {s : A} (hs : xs[i]? = some s) (hg : g s = false) : xs.all g = false := by
  rw [List.all_eq_false]
  exact ⟨s, List.mem_of_getElem? hs, by rw [hg]; decide⟩
def spN__law_is_form (d : Nat) : DSp := fun ds μ R => ∃ v, ds = [.imm v] ∧ μ = [] ∧ v.depth < 2 * d ∧ ∀ μ', R (dB (formD d v)) μ'
theorem goN__law_is_form (d : Nat) : ∀ ds μ R, spN__law_is_form (d + 1) ds μ R → t__law_is_form P w K (spN__law_is_form d) (ends R) ⟨ds.map some ++ List.replicate (2 - ds.length) none, μ⟩ := by
  rintro ds μ R ⟨v, rfl, rfl, hd, h⟩
  unfold t__law_is_form
  simp only [List.map_cons, List.map_nil, List.length_cons, List.length_nil, Nat.reduceAdd, Nat.reduceSub, List.replicate, List.cons_append, List.nil_append]
  walk_at "dy"
  cases v with
  | tuple xs =>
    rw [depth_tup] at hd
    refine r_iteF rfl ?_
    walk_at "dy"
    have hl : (List.map DV.imm xs).length = xs.length := by simp
    rw [hl]
    have ef : formD (d + 1) (.tuple xs) = (decide (1 ≤ xs.length ∧ xs.length ≤ 60) && xs.all (formS (formD d))) := rfl
    rw [ef] at h
    by_cases c : 1 ≤ xs.length ∧ xs.length ≤ 60
    · rw [decide_eq_true c, Bool.true_and] at h
      refine r_iteT (by simp; omega) ?_
      walk_at "dy"
      refine r_iteF (by simp; omega) ?_
      walk_at "dy"
      refine ⟨fun i S => ∃ z1 : Option DV, S = ⟨[some (.imm (.tuple xs)), z1], []⟩ ∧ (xs.take i).all (formS (formD d)) = true, ⟨_, rfl, rfl⟩, fun _ _ _ _ => True.intro, ?_, ?_⟩
      · rintro i y S2 hy ⟨z1, rfl, hf⟩
        rw [List.map_map, List.getElem?_map] at hy
        obtain ⟨s, hs, rfl⟩ := Option.map_eq_some_iff.mp hy
        have hsd := depth_mem (List.mem_of_getElem? hs)
        change dgName 1 (DY.one (.imm s)) _ _
        walk_at "dy"
        cases s with
        | tuple ys =>
          rw [depth_tup] at hsd
          refine r_iteT rfl ?_
          walk_at "dy"
          have hly : ((List.map DV.imm ys).length : Int) = (ys.length : Int) := by simp
          rw [hly]
          by_cases c2 : ys.length = 2
          · obtain ⟨t, p, rfl⟩ : ∃ t p, ys = [t, p] := by
              match ys, c2 with
              | [t, p], _ => exact ⟨t, p, rfl⟩
            have hp := depth_mem (xs := [t, p]) (s := p) (by simp)
            refine r_iteF rfl ?_
            walk_at "dy"
            refine r_at (e := .imm t) rfl rfl rfl ?_
            walk_at "dy"
            have un : formS (formD d) (.tuple [t, p]) = (isTimes t && formD d p) := rfl
            cases t with
            | int i0 =>
              refine r_iteF rfl ?_
              walk_at "dy"
              refine r_at (e := dI i0) rfl rfl rfl ?_
              walk_at "dy"
              refine r_iteF rfl ?_
              walk_at "dy"
              refine r_at (e := dI i0) rfl rfl rfl ?_
              walk_at "dy"
              have p30 : (10 : Int) ^ (30 : Int).toNat = 1000000000000000000000000000000 := rfl
              have bad : ∀ q : isTimes (.int i0) = false, R (dB false) [] := fun q => by
                rw [q, Bool.false_and] at un
                rw [all_no hs un] at h
                exact h []
              by_cases g1 : 1 ≤ i0
              · refine r_iteT (decide_eq_true g1) ?_
                walk_at "dy"
                refine r_pow (by unfold PowOk; decide) ?_
                rw [p30]
                walk_at "dy"
                by_cases g2 : i0 ≤ 1000000000000000000000000000000
                · have ti : isTimes (.int i0) = true := by show (decide (1 ≤ i0) && decide (i0 ≤ 1000000000000000000000000000000)) = true; rw [decide_eq_true g1, decide_eq_true g2]; rfl
                  rw [ti, Bool.true_and] at un
                  refine r_iteF (by rw [decide_eq_true g2]; rfl) ?_
                  walk_at "dy"
                  refine r_at (e := .imm p) rfl rfl rfl ?_
                  walk_at "dy"
                  refine r_callI rfl ⟨p, rfl, rfl, by omega, fun μ' => ?_⟩
                  walk_at "dy"
                  by_cases g3 : formD d p = true
                  · rw [g3]
                    refine r_iteF rfl ?_
                    walk_at "dy"
                    exact ⟨_, rfl, all_take hs hf (by rw [un, g3])⟩
                  · have g3 : formD d p = false := by simpa using g3
                    rw [g3]
                    refine r_iteT rfl ?_
                    walk_at "dy"
                    rw [g3] at un
                    rw [all_no hs un] at h
                    exact h []
                · refine r_iteT (by rw [decide_eq_false g2]; rfl) ?_
                  refine r_iteT rfl ?_
                  walk_at "dy"
                  exact bad (by show (decide (1 ≤ i0) && decide (i0 ≤ 1000000000000000000000000000000)) = false; rw [decide_eq_false g2]; simp)
              · refine r_iteF (decide_eq_false g1) ?_
                walk_at "dy"
                refine r_iteT rfl ?_
                refine r_iteT rfl ?_
                walk_at "dy"
                exact bad (by show (decide (1 ≤ i0) && decide (i0 ≤ 1000000000000000000000000000000)) = false; rw [decide_eq_false g1]; rfl)
            | bool b =>
              refine r_iteF rfl ?_
              walk_at "dy"
              refine r_at (e := dB b) rfl rfl rfl ?_
              walk_at "dy"
              refine r_iteT rfl ?_
              walk_at "dy"
              rw [all_no hs un] at h
              exact h []
            | _ =>
              refine r_iteT rfl ?_
              refine r_iteT rfl ?_
              walk_at "dy"
              rw [all_no hs un] at h
              exact h []
          · refine r_iteT (by simp; omega) ?_
            refine r_iteT rfl ?_
            walk_at "dy"
            have no : formS (formD d) (.tuple ys) = false := by
              match ys, c2 with
              | [], _ => rfl
              | [_], _ => rfl
              | [_, _], c => exact absurd rfl c
              | _ :: _ :: _ :: _, _ => rfl
            rw [all_no hs no] at h
            exact h []
        | int i0 =>
          have un : formS (formD d) (.int i0) = (decide (0 ≤ i0) && decide (i0 ≤ 59)) := rfl
          refine r_iteF rfl ?_
          walk_at "dy"
          refine r_iteF rfl ?_
          walk_at "dy"
          refine r_iteF rfl ?_
          walk_at "dy"
          by_cases g1 : 0 ≤ i0
          · refine r_iteT (decide_eq_true g1) ?_
            walk_at "dy"
            by_cases g2 : i0 ≤ 59
            · refine r_iteF (by rw [decide_eq_true g2]; rfl) ?_
              walk_at "dy"
              exact ⟨_, rfl, all_take hs hf (by rw [un, decide_eq_true g1, decide_eq_true g2]; rfl)⟩
            · refine r_iteT (by rw [decide_eq_false g2]; rfl) ?_
              walk_at "dy"
              rw [all_no hs (by rw [un, decide_eq_false g2]; simp)] at h
              exact h []
          · refine r_iteF (decide_eq_false g1) ?_
            walk_at "dy"
            refine r_iteT rfl ?_
            walk_at "dy"
            rw [all_no hs (by rw [un, decide_eq_false g1]; rfl)] at h
            exact h []
        | bool b =>
          refine r_iteF rfl ?_
          walk_at "dy"
          refine r_iteF rfl ?_
          walk_at "dy"
          refine r_iteT rfl ?_
          refine r_iteT rfl ?_
          walk_at "dy"
          rw [all_no hs rfl] at h
          exact h []
        | _ =>
          refine r_iteF rfl ?_
          walk_at "dy"
          refine r_iteT rfl ?_
          refine r_iteT rfl ?_
          walk_at "dy"
          rw [all_no hs rfl] at h
          exact h []
      · rintro S2 ⟨z1, rfl, hf⟩
        rw [List.length_map, List.length_map, List.take_length] at hf
        walk_at "dy"
        rw [hf] at h
        exact h []
    · rw [decide_eq_false c, Bool.false_and] at h
      by_cases c1 : 1 ≤ xs.length
      · refine r_iteT (by simp; omega) ?_
        walk_at "dy"
        refine r_iteT (by simp; omega) ?_
        walk_at "dy"
        exact h []
      · refine r_iteF (by simp; omega) ?_
        walk_at "dy"
        refine r_iteT rfl ?_
        walk_at "dy"
        exact h []
  | _ =>
    refine r_iteT rfl ?_
    refine r_iteT rfl ?_
    walk_at "dy"
    exact h []
theorem no__law_is_form : ∀ ds μ R, ¬ spN__law_is_form 0 ds μ R := fun ds μ R ⟨_, _, _, h, _⟩ => Nat.not_lt_zero _ h
abbrev sp__law_is_form : DSp := spN__law_is_form 12
/-- whole numbers of a list of natural ones -/
def castI (l : List Nat) : List Int := l.map fun (n : Nat) => (n : Int)
theorem castI_sum (l : List Nat) : (castI l).sum = (l.sum : Nat) := by
  induction l with
  | nil => rfl
  | cons a l ih =>
    show (a : Int) + (castI l).sum = _
    rw [ih, List.sum_cons, Int.natCast_add]
theorem inner_form {d : Nat} {xs : List PyData} (h : xs.all (formS (formD d)) = true) : ∀ s ∈ xs, isTup s = true → ∃ t p, s = .tuple [t, p] ∧ formD d p = true := by
  intro s hs ht
  have := List.all_eq_true.mp h s hs
  cases s with
  | tuple ys =>
    match ys, this with
    | [t, p], this =>
      have : (isTimes t && formD d p) = true := this
      rw [Bool.and_eq_true] at this
      exact ⟨t, p, rfl, this.2⟩
  | _ => cases ht
theorem r_gsum {x : DV} {es : List DV} {ns : List Int} {S : DSt} {R : DV → DSt → Prop} (e : S.seq x = some (true, es)) (ei : allI es = some ns) (q : R (dI ns.sum) S) : gSum [x] S R := by
  unfold gSum
  dsimp only
  rw [e]
  dsimp only
  rw [ei]
  exact q
theorem ints_allI (ns : List Int) : allI ((ns.map PyData.int).map DV.imm) = some ns := by rw [List.map_map]; exact allI_map ns
theorem ints_castI (l : List Nat) : allI ((l.map fun n => PyData.int (n : Nat)).map DV.imm) = some (castI l) := by
  have := ints_allI (castI l)
  rw [show (castI l).map PyData.int = l.map fun n => PyData.int (n : Nat) by unfold castI; rw [List.map_map]; rfl] at this
  exact this
def spN__law_steps (d : Nat) : DSp := fun ds μ R => ∃ v, ds = [.imm v] ∧ μ = [] ∧ (v.depth < 2 * d ∧ formD d v = true) ∧ ∀ μ', R (dI (sumD d v)) μ'
theorem goN__law_steps (d : Nat) : ∀ ds μ R, spN__law_steps (d + 1) ds μ R → t__law_steps P w K (spN__law_steps d) (ends R) ⟨ds.map some ++ List.replicate (3 - ds.length) none, μ⟩ := by
  rintro ds μ R ⟨v, rfl, rfl, ⟨hd, hf⟩, h⟩
  cases v with
  | tuple xs =>
    rw [depth_tup] at hd
    have ef : formD (d + 1) (.tuple xs) = (decide (1 ≤ xs.length ∧ xs.length ≤ 60) && xs.all (formS (formD d))) := rfl
    rw [ef, Bool.and_eq_true] at hf
    obtain ⟨hf1, hf2⟩ := hf
    have hf1 := of_decide_eq_true hf1
    unfold t__law_steps
    walk_at "dy"
    refine r_lc ?_
    walk_at "dy"
    refine lc_run (fun _ => True.intro) (by simp [sizeLine_eq]; omega) (fun y => match y with | .one (.imm s) => isTup s | _ => false) (fun y => match y with | .one (.imm s) => .int (sumD d (sndP s) : Nat) | _ => .none) ?_ ?_
    · intro y hy N hN
      rw [List.map_map] at hy
      obtain ⟨s, hs, rfl⟩ := List.mem_map.mp hy
      have hsd := depth_mem hs
      change N (if isTup s = true then some (PyData.int (sumD d (sndP s) : Nat)) else none) _ at hN
      change dgName 1 (DY.one (.imm s)) _ _
      walk_at "dy"
      cases e : isTup s with
      | false =>
        rw [e] at hN
        refine r_iteF (by cases s <;> first | rfl | (cases e)) ?_
        exact hN
      | true =>
        obtain ⟨t, p, rfl, hp⟩ := inner_form hf2 s hs e
        rw [depth_tup] at hsd
        have := depth_mem (xs := [t, p]) (s := p) (by simp)
        refine r_iteT rfl ?_
        walk_at "dy"
        refine r_at (e := .imm p) rfl rfl rfl ?_
        walk_at "dy"
        refine r_callI rfl ⟨p, rfl, rfl, ⟨by omega, hp⟩, fun μ' => ?_⟩
        rw [e] at hN
        exact hN
    rw [show ((((List.map DV.imm xs).map DY.one).filter fun y => match y with | .one (.imm s) => isTup s | _ => false).map fun y => match y with | .one (.imm s) => PyData.int (sumD d (sndP s) : Nat) | _ => .none) = ((innerL xs).map (sumD d)).map fun n => PyData.int (n : Nat) by
      unfold innerL
      rw [List.map_map, List.filter_map, List.map_map, List.map_map, List.map_map]
      rfl]
    walk_at "dy"
    have hl : ((List.map DV.imm xs).length : Int) = (xs.length : Int) := by simp
    rw [hl]
    refine r_gsum rfl (ints_castI _) ?_
    rw [castI_sum]
    walk_at "dy"
    have := h []
    rw [show ((sumD (d + 1) (.tuple xs) : Nat) : Int) = (xs.length : Int) + (((innerL xs).map (sumD d)).sum : Nat) from Int.natCast_add _ _] at this
    exact this
  | _ => cases hf
theorem no__law_steps : ∀ ds μ R, ¬ spN__law_steps 0 ds μ R := fun ds μ R ⟨_, _, _, ⟨h, _⟩, _⟩ => Nat.not_lt_zero _ h
abbrev sp__law_steps : DSp := spN__law_steps 12
theorem max_mem : ∀ l : List Nat, (maxN (0 :: l) : Nat) ∈ (0 :: l)
  | [] => by simp [maxN]
  | a :: l => by
    have ih := max_mem l
    have e : maxN (0 :: a :: l) = max a (maxN (0 :: l)) := by
      show max 0 (max a (maxN l)) = max a (max 0 (maxN l))
      omega
    rw [e]
    rcases Nat.le_total a (maxN (0 :: l)) with c | c
    · rw [Nat.max_eq_right c]
      rcases List.mem_cons.mp ih with z | z
      · rw [z]; simp
      · simp [z]
    · rw [Nat.max_eq_left c]; simp
theorem max_ge {l : List Nat} {x : Nat} (h : x ∈ l) : x ≤ maxN l := (max_le (n := maxN l)).mp (Nat.le_refl _) x h
def spN__law_depth (d : Nat) : DSp := fun ds μ R => ∃ v, ds = [.imm v] ∧ μ = [] ∧ (v.depth < 2 * d ∧ formD d v = true) ∧ ∀ μ', R (dI (depthD d v)) μ'
theorem goN__law_depth (d : Nat) : ∀ ds μ R, spN__law_depth (d + 1) ds μ R → t__law_depth P w K (spN__law_depth d) (ends R) ⟨ds.map some ++ List.replicate (3 - ds.length) none, μ⟩ := by
  rintro ds μ R ⟨v, rfl, rfl, ⟨hd, hf⟩, h⟩
  cases v with
  | tuple xs =>
    rw [depth_tup] at hd
    have ef : formD (d + 1) (.tuple xs) = (decide (1 ≤ xs.length ∧ xs.length ≤ 60) && xs.all (formS (formD d))) := rfl
    rw [ef, Bool.and_eq_true] at hf
    obtain ⟨hf1, hf2⟩ := hf
    have hf1 := of_decide_eq_true hf1
    unfold t__law_depth
    walk_at "dy"
    refine r_lc ?_
    walk_at "dy"
    refine lc_run (fun _ => True.intro) (by simp [sizeLine_eq]; omega) (fun y => match y with | .one (.imm s) => isTup s | _ => false) (fun y => match y with | .one (.imm s) => .int (depthD d (sndP s) : Nat) | _ => .none) ?_ ?_
    · intro y hy N hN
      rw [List.map_map] at hy
      obtain ⟨s, hs, rfl⟩ := List.mem_map.mp hy
      have hsd := depth_mem hs
      change N (if isTup s = true then some (PyData.int (depthD d (sndP s) : Nat)) else none) _ at hN
      change dgName 1 (DY.one (.imm s)) _ _
      walk_at "dy"
      cases e : isTup s with
      | false =>
        rw [e] at hN
        refine r_iteF (by cases s <;> first | rfl | (cases e)) ?_
        exact hN
      | true =>
        obtain ⟨t, p, rfl, hp⟩ := inner_form hf2 s hs e
        rw [depth_tup] at hsd
        have := depth_mem (xs := [t, p]) (s := p) (by simp)
        refine r_iteT rfl ?_
        walk_at "dy"
        refine r_at (e := .imm p) rfl rfl rfl ?_
        walk_at "dy"
        refine r_callI rfl ⟨p, rfl, rfl, ⟨by omega, hp⟩, fun μ' => ?_⟩
        rw [e] at hN
        exact hN
    rw [show ((((List.map DV.imm xs).map DY.one).filter fun y => match y with | .one (.imm s) => isTup s | _ => false).map fun y => match y with | .one (.imm s) => PyData.int (depthD d (sndP s) : Nat) | _ => .none) = ((innerL xs).map (depthD d)).map fun n => PyData.int (n : Nat) by
      unfold innerL
      rw [List.map_map, List.filter_map, List.map_map, List.map_map, List.map_map]
      rfl]
    have il : (innerL xs).length ≤ xs.length := by unfold innerL; rw [List.length_map]; exact List.length_filter_le _ _
    have ed : depthD (d + 1) (.tuple xs) = 1 + maxN ((innerL xs).map (depthD d)) := rfl
    rw [ed] at h
    have ll : ((innerL xs).map (depthD d)).length ≤ 60 := by rw [List.length_map]; omega
    generalize (innerL xs).map (depthD d) = l at h ll ⊢
    walk_at "dy"
    refine r_lst ?_
    walk_at "dy"
    refine r_addLI (by simp [sizeLine_eq]; omega) ?_
    walk_at "dy"
    refine r_maxL (ns := castI (0 :: l)) rfl ?_ (by simp [castI]) ?_
    · exact ints_castI (0 :: l)
    · intro m m1 m2
      obtain ⟨k, hk, rfl⟩ := List.mem_map.mp m1
      have e : k = maxN l := by
        have z : maxN (0 :: l) = maxN l := by show max 0 (maxN l) = _; omega
        refine Nat.le_antisymm (by rw [← z]; exact max_ge hk) ?_
        have := m2 (maxN (0 :: l) : Nat) (List.mem_map.mpr ⟨_, max_mem l, rfl⟩)
        rw [z] at this
        omega
      subst e
      walk_at "dy"
      have := h []
      rw [Int.natCast_add] at this
      exact this
  | _ => cases hf
theorem no__law_depth : ∀ ds μ R, ¬ spN__law_depth 0 ds μ R := fun ds μ R ⟨_, _, _, ⟨h, _⟩, _⟩ => Nat.not_lt_zero _ h
abbrev sp__law_depth : DSp := spN__law_depth 12
def sp__law_due : DSp := fun ds μ R => ∃ v, ds = [.imm v] ∧ μ = [] ∧ v.depth < 24 ∧ ∀ μ', R (dB (okPr v)) μ'
theorem go__law_due : ∀ ds μ R, sp__law_due ds μ R → t__law_due P w K sp__law_steps sp__law_depth sp__law_is_form (ends R) ⟨ds.map some ++ List.replicate (1 - ds.length) none, μ⟩ := by
  rintro ds μ R ⟨v, rfl, rfl, hv, h⟩
  unfold okPr at h
  rw [steps_eq 12 8 v (by omega)] at h
  unfold t__law_due
  walk_at "dy"
  refine r_callI rfl ⟨v, rfl, rfl, by omega, fun μ' => ?_⟩
  walk_at "dy"
  by_cases c : formD 12 v = true
  · refine r_iteT c ?_
    walk_at "dy"
    refine r_callI rfl ⟨v, rfl, rfl, ⟨by omega, c⟩, fun μ' => ?_⟩
    walk_at "dy"
    by_cases c2 : depthD 12 v ≤ 8
    · refine r_iteT (decide_eq_true (by omega)) ?_
      walk_at "dy"
      refine r_callI rfl ⟨v, rfl, rfl, ⟨by omega, c⟩, fun μ' => ?_⟩
      walk_at "dy"
      rw [if_pos ⟨c, c2⟩] at h
      have : R (dB (decide (sumD 12 v ≤ 200))) [] := h []
      rw [show decide (sumD 12 v ≤ 200) = decide ((sumD 12 v : Int) ≤ 200) by rw [decide_eq_decide]; omega] at this
      exact this
    · refine r_iteF (decide_eq_false (by omega)) ?_
      rw [if_neg fun z => c2 z.2] at h
      walk_at "dy"
      exact h []
  · refine r_iteF (by simpa using c) ?_
    rw [if_neg fun z => c z.1] at h
    walk_at "dy"
    exact h []

end
end K35

set_option Elab.async false
set_option linter.all false
set_option maxRecDepth 100000
set_option autoImplicit false
set_option maxHeartbeats 8000000
namespace K35
open PySem PySem.Spec L2 DL PyProof.Rows
local macro_rules | `(tactic| walk_at "dl1") => `(tactic| ((first | (with_reducible apply r_seq) | (with_reducible apply r_asg) | ((with_reducible apply r_gn); try simp only [DSt.set, List.set_cons_succ, List.set_cons_zero, List.set_nil]) | ((with_reducible apply r_gtwo); try simp only [DSt.set, List.set_cons_succ, List.set_cons_zero, List.set_nil]) | ((with_reducible apply r_var); · exact rfl) | (with_reducible apply r_c) | (with_reducible apply r_op) | (with_reducible apply r_un) | (with_reducible apply r_test) | (with_reducible apply r_kTest) | (with_reducible apply r_and) | (with_reducible apply r_or) | (with_reducible apply r_not) | (with_reducible apply r_if) | (with_reducible apply r_andV) | (with_reducible apply r_orV) | (with_reducible apply r_notV) | (with_reducible apply r_chain) | (with_reducible apply r_nil) | (with_reducible apply r_cons) | (with_reducible apply r_tup) | ((with_reducible apply r_kTup); (· exact rfl); (· exact Nat.le_of_ble_eq_true rfl)) | ((with_reducible apply r_kLstC); (· exact Nat.le_of_ble_eq_true rfl)) | ((with_reducible apply r_kLst); (· exact rfl); (· exact Nat.le_of_ble_eq_true rfl)) | (with_reducible apply r_cb) | (with_reducible apply r_cmp) | (with_reducible apply r_add) | (with_reducible apply r_sub) | (with_reducible apply r_neg) | (with_reducible apply r_min) | ((with_reducible apply r_isN); · exact rfl) | ((with_reducible apply r_notN); · exact rfl) | ((with_reducible apply r_isi); · decide) | ((with_reducible apply r_len); (· exact rfl); (· exact rfl)) | (with_reducible apply r_call) | (with_reducible apply r_retI) | (with_reducible apply r_for) | (with_reducible apply r_dc) | (with_reducible apply r_iAny) | ((with_reducible apply r_kAny); · exact rfl) | (with_reducible apply r_iR1) | (with_reducible apply r_iR2) | (with_reducible apply r_iEn) | ((with_reducible apply r_kEn); · exact rfl) | (with_reducible apply r_drop) | (with_reducible apply r_retK) | (with_reducible apply r_kRet) | (with_reducible apply r_ifS) | (with_reducible apply r_next) | (with_reducible apply r_yes) | (with_reducible apply r_brk) | (with_reducible apply r_cont)) <;> try dsimp only))
local macro_rules | `(tactic| walk_at "dl") => `(tactic| (repeat walk_at "dl1"))
local macro_rules | `(tactic| walk_at "dlm") => `(tactic| ((first | walk_at "dl1" | ((first | (with_reducible apply r_bm) | (with_reducible apply r_bm0) | (with_reducible apply r_eqI) | (with_reducible apply r_neI) | (with_reducible apply r_eqS) | (with_reducible apply r_neS)) <;> try dsimp only))))
local macro_rules | `(tactic| walk_at "dx") => `(tactic| (repeat walk_at "dlm"))
local macro_rules | `(tactic| walk_at "dy1") => `(tactic| ((first | walk_at "dlm" | ((first | (with_reducible apply r_dput) | (with_reducible apply r_sl) | (with_reducible apply r_noPart) | (with_reducible apply r_part) | (with_reducible apply r_kPart) | (with_reducible apply r_rg1) | (with_reducible apply r_kRg1) | (with_reducible apply r_rg2) | (with_reducible apply r_kRg2) | (with_reducible apply r_rev) | (with_reducible apply r_lstRg) | (with_reducible apply r_tupRg) | (with_reducible apply r_newD) | (with_reducible apply r_par) | ((with_reducible apply r_kPar); try simp only [DSt.set, List.set_cons_succ, List.set_cons_zero, List.set_nil]) | (with_reducible apply r_parN) | ((with_reducible apply r_kParN); (· exact Nat.le_of_ble_eq_true rfl); (· exact rfl); (try simp only [DSt.set, DSt.new, List.set_cons_succ, List.set_cons_zero, List.set_nil, List.cons_append, List.nil_append, List.length_cons, List.length_nil, Nat.reduceAdd]))) <;> try dsimp only))))
local macro_rules | `(tactic| walk_at "dy") => `(tactic| (repeat walk_at "dy1"))
section
variable {P : Program} {w : World} {K : PySem.W.Frag}
/-! the draws, called -/
theorem cut_to {A : Type} (xs : List A) (n : Nat) : DL.cutD xs none (some (n : Int)) = xs.take n := by
  unfold DL.cutD
  rw [HT.sIx_none, HT.sIx_nat, List.drop_zero, Nat.sub_zero]
  by_cases c : n ≤ xs.length
  · rw [Nat.min_eq_left c]
  · rw [Nat.min_eq_right (by omega), List.take_length, List.take_of_length_le (by omega)]
def rgI (a b : Int) : List Int := (List.range (b - a).toNat).map fun (i : Nat) => a + (i : Int)
theorem rgD_L (a b : Int) : PyData.list (rgD a b) = L (rgI a b) := by
  unfold rgD rgI L
  rw [List.map_map]
  rfl
theorem rgI_len (a b : Int) : (rgI a b).length = (b - a).toNat := by simp [rgI]
theorem rgI_mem {a b x : Int} (h : x ∈ rgI a b) : a ≤ x ∧ x < b := by
  obtain ⟨i, hi, rfl⟩ := List.mem_map.mp h
  have := List.mem_range.mp hi
  omega
theorem at_ints {ns : List Int} {r : Int} (h0 : 0 ≤ r) (h1 : r < ns.length) : ∃ x, x ∈ ns ∧ atI ((ns.map PyData.int).map DV.imm) r = some (dI x) := by
  have hr : r.toNat < ns.length := by omega
  refine ⟨ns[r.toNat], List.getElem_mem hr, ?_⟩
  have e : atI ((ns.map PyData.int).map DV.imm) ((r.toNat : Nat) : Int) = some (dI ns[r.toNat]) := atI_nat (by rw [List.map_map, List.getElem?_map, List.getElem?_eq_getElem (by simpa using hr)]; simp)
  rwa [show ((r.toNat : Nat) : Int) = r by omega] at e
theorem call_spoon {S : DSt} {R : DV → DSt → Prop} {k : Nat} {b x0 x1 x2 c : Int} (hk : S.μ[k]? = some (some (shD x0 x1 x2))) (sh : Sh c x0 x1 x2) (hc : c ≤ 10 ^ 9) (b0 : 0 < b) (b1 : b < 10 ^ 45)
    (q : ∀ r y0 y1 y2, 0 ≤ r → r < b → Sh (c + 1) y0 y1 y2 → R (dI r) ⟨S.ρ, S.μ.set k (some (shD y0 y1 y2))⟩) : ∃ ks, kCall sp__law_spoon R ([.cell k, dI b] ++ []) S ks := by
  have hkl := (List.getElem?_eq_some_iff.mp hk).1
  refine r_callC (k := k) (o := shD x0 x1 x2) (es' := [.cell 0, dI b]) hkl (by simp [renDs, renD]) ?_ ?_
  · show (match S.μ[k]? with | some (some o) => if o.bare = true then some o else none | _ => none) :: cellsOf S.μ [] = _
    rw [hk]; rfl
  · refine ⟨b, x0, x1, x2, c, rfl, rfl, sh, hc, b0, b1, fun r y0 y1 y2 μ' r0 r1 s hm => ?_⟩
    exact r_retC (o := shD y0 y1 y2) rfl hm (q r y0 y1 y2 r0 r1 s)
theorem call_shuffled {S : DSt} {R : DV → DSt → Prop} {k : Nat} {ts : List Int} {x0 x1 x2 c : Int} (hk : S.μ[k]? = some (some (shD x0 x1 x2))) (sh : Sh c x0 x1 x2) (hc : c ≤ 10 ^ 8) (hl : ts.length ≤ 1000)
    (q : ∀ rs y0 y1 y2, rs.Perm ts → Sh (c + ts.length) y0 y1 y2 → R (.imm (L rs)) ⟨S.ρ, S.μ.set k (some (shD y0 y1 y2))⟩) : ∃ ks, kCall sp__law_shuffled R ([.cell k, .imm (L ts)] ++ []) S ks := by
  have hkl := (List.getElem?_eq_some_iff.mp hk).1
  refine r_callC (k := k) (o := shD x0 x1 x2) (es' := [.cell 0, .imm (L ts)]) hkl (by simp [renDs, renD]) ?_ ?_
  · show (match S.μ[k]? with | some (some o) => if o.bare = true then some o else none | _ => none) :: cellsOf S.μ [] = _
    rw [hk]; rfl
  · refine ⟨ts, x0, x1, x2, c, rfl, rfl, sh, hc, hl, fun rs y0 y1 y2 μ' hp s hm => ?_⟩
    exact r_retC (o := shD y0 y1 y2) rfl hm (q rs y0 y1 y2 hp s)
theorem three_at {a b c r : Int} (h0 : 0 ≤ r) (h1 : r < 3) (P : Int → Prop) (pa : P a) (pb : P b) (pc : P c) : ∃ x, atI (([.int a, .int b, .int c] : List PyData).map DV.imm) r = some (dI x) ∧ P x := by
  have : r = 0 ∨ r = 1 ∨ r = 2 := by omega
  rcases this with rfl | rfl | rfl
  · exact ⟨a, rfl, pa⟩
  · exact ⟨b, rfl, pb⟩
  · exact ⟨c, rfl, pc⟩
/-! ### a call that hands over two cells -/
theorem r_callC2 {dsp : DSp} {S : DSt} {R : DV → DSt → Prop} {k0 k1 : Nat} {o0 o1 : DO} {es es' : List DV} (h0 : S.μ[k0]? = some (some o0)) (h1 : S.μ[k1]? = some (some o1)) (b0 : o0.bare = true) (b1 : o1.bare = true) (ne : k0 ≠ k1)
    (hr : renDs [k0, k1] es = some es') (q : dsp es' [some o0, some o1] (retK R S [k0, k1])) : ∃ ks, kCall dsp R (es ++ []) S ks := ⟨[k0, k1], by
  unfold kCall
  rw [List.append_nil, hr]
  refine ⟨by simp [ne], fun j hj => ?_, ?_⟩
  · rcases List.mem_cons.mp hj with e | e
    · rw [e]; exact (List.getElem?_eq_some_iff.mp h0).1
    · rw [List.mem_singleton.mp e]; exact (List.getElem?_eq_some_iff.mp h1).1
  · have e : cellsOf S.μ [k0, k1] = [some o0, some o1] := by
      show [(match S.μ[k0]? with | some (some o) => if o.bare = true then some o else none | _ => none), (match S.μ[k1]? with | some (some o) => if o.bare = true then some o else none | _ => none)] = _
      rw [h0, h1]
      dsimp only
      rw [if_pos b0, if_pos b1]
    rw [e]
    exact q⟩
theorem r_retC2 {S : DSt} {R : DV → DSt → Prop} {k0 k1 : Nat} {p : PyData} {o0 o1 : DO} {μ' : List (Option DO)} (b0 : o0.bare = true) (b1 : o1.bare = true) (h0 : μ'[0]? = some (some o0)) (h1 : μ'[1]? = some (some o1)) (q : R (.imm p) ⟨S.ρ, (S.μ.set k0 (some o0)).set k1 (some o1)⟩) : retK R S [k0, k1] (.imm p) μ' := by
  show R (.imm p) ⟨S.ρ, backs S.μ [k0, k1] μ'⟩
  have e : backs S.μ [k0, k1] μ' = (S.μ.set k0 (some o0)).set k1 (some o1) := by
    show (S.μ.set k0 (match μ'[0]? with | some (some o) => if o.bare = true then some o else none | _ => none)).set k1 (match (μ'.drop 1)[0]? with | some (some o) => if o.bare = true then some o else none | _ => none) = _
    rw [List.getElem?_drop, h0, h1]
    dsimp only
    rw [if_pos b0, if_pos b1]
  rw [e]; exact q
/-! ### programs that are drawn -/
/-- a step of a program of at most so many levels -/
def OkP : Nat → PyData → Prop
  | 0, _ => False
  | l + 1, v => match v with
    | .tuple xs => xs ≠ [] ∧ ∀ s ∈ xs, (∃ i : Int, s = .int i ∧ 0 ≤ i ∧ i ≤ 59) ∨ ∃ (t : Int) (p : PyData), s = .tuple [.int t, p] ∧ 1 ≤ t ∧ t ≤ 1000000000000000000000000000000 ∧ OkP l p
    | _ => False
def OkS (l : Nat) (s : PyData) : Prop := (∃ i : Int, s = .int i ∧ 0 ≤ i ∧ i ≤ 59) ∨ ∃ (t : Int) (p : PyData), s = .tuple [.int t, p] ∧ 1 ≤ t ∧ t ≤ 1000000000000000000000000000000 ∧ OkP l p
theorem OkP.mk {l : Nat} {xs : List PyData} (h : xs ≠ []) (hs : ∀ s ∈ xs, OkS l s) : OkP (l + 1) (.tuple xs) := ⟨h, hs⟩
theorem OkP.tup {l : Nat} {v : PyData} (h : OkP l v) : ∃ m xs, l = m + 1 ∧ v = .tuple xs ∧ xs ≠ [] ∧ ∀ s ∈ xs, OkS m s := by
  cases l with
  | zero => exact h.elim
  | succ m => cases v with
    | tuple xs => exact ⟨m, xs, rfl, rfl, h.1, h.2⟩
    | _ => exact h.elim
theorem OkS.up1 : ∀ {l : Nat} {s : PyData}, OkS l s → OkS (l + 1) s := by
  intro l
  induction l with
  | zero =>
    rintro s (h | ⟨t, p, _, _, _, h⟩)
    · exact .inl h
    · exact h.elim
  | succ l ih =>
    rintro s (h | ⟨t, p, e, t1, t2, h⟩)
    · exact .inl h
    · obtain ⟨m, xs, e2, rfl, hx, hs⟩ := h.tup
      cases e2
      exact .inr ⟨t, _, e, t1, t2, OkP.mk hx fun s hm => ih (hs s hm)⟩
theorem log_le {i : Int} (h0 : 0 ≤ i) (h1 : i ≤ 1000000000000000000000000000000) : i.natAbs.log2 < 100 := by
  by_cases c : i.natAbs = 0
  · rw [c]; decide
  · exact (Nat.log2_lt c).mpr (Nat.lt_of_le_of_lt (show i.natAbs ≤ 10 ^ 30 by omega) (by decide))
theorem wt_app : ∀ (xs ys : List PyData), wtAll (xs ++ ys) = wtAll xs + wtAll ys
  | [], ys => by simp [wtAll]
  | x :: xs, ys => by rw [List.cons_append, wtAll, wtAll, wt_app xs ys]; omega
/-! ### _law_program -/
theorem OkS.up {l m : Nat} (h : l ≤ m) {s : PyData} (hs : OkS l s) : OkS m s := by
  induction h with
  | refl => exact hs
  | step _ ih => exact ih.up1
def W30 : Int := 1000000000000000000000000000000
def spN__law_program (d : Nat) : DSp := fun ds μ R => ∃ cars most l x0 x1 x2 c, ∃ lv : Nat, ds = [.cell 0, .imm (L cars), dI lv, dI most, dI 1000000000000000000000000000000, .cell 1] ∧ μ = [some (shD x0 x1 x2), some (.lst [dI l])] ∧
  (1 ≤ cars.length ∧ cars.length ≤ 60 ∧ ∀ x ∈ cars, 0 ≤ x ∧ x ≤ 59) ∧ (1 ≤ lv ∧ lv ≤ d) ∧ (1 ≤ most ∧ most ≤ 60) ∧ (1 ≤ l ∧ l ≤ 300) ∧ Sh c x0 x1 x2 ∧ c + 10 * l ≤ 10 ^ 7 ∧
  ∀ y0 y1 y2 l' xs μ', OkP lv (.tuple xs) → 0 ≤ l' → l' < l → (wtAll xs : Int) ≤ 130 * (l - l') → Sh (c + 10 * (l - l')) y0 y1 y2 → μ'[0]? = some (some (shD y0 y1 y2)) → μ'[1]? = some (some (.lst [dI l'])) → R (.imm (.tuple xs)) μ'
def InvP (cars : List Int) (lv i : Nat) (most c l : Int) (S : DSt) : Prop := ∃ (z7 z8 : Option DV) (y0 y1 y2 b l' : Int) (ps : List PyData), S = ⟨[some (.cell 0), some (.imm (L cars)), some (dI lv), some (dI most), some (dI 1000000000000000000000000000000), some (.cell 1), some (.cell 2), z7, z8], [some (shD y0 y1 y2), some (.lst [dI l']), some (.lst (ps.map DV.imm))]⟩ ∧
    (∀ s ∈ ps, OkS (lv - 1) s) ∧ (0 ≤ l' ∧ l' ≤ l) ∧ (wtAll ps : Int) ≤ 130 * (l - l') ∧ ps.length ≤ i ∧ Sh b y0 y1 y2 ∧ b ≤ c + 10 * (l - l') + 3 ∧ (1 ≤ i → b ≤ c + 10 * (l - l') ∧ ps ≠ [] ∧ l' < l) ∧ (i = 0 → l' = l ∧ b ≤ c + 3)
def body_program (P : Program) (w : World) (K : PySem.W.Frag) (sp__law_spoon sp__law_program : DSp) : DTS :=
  (dSeq (dPut (dOp gSub (dOp gAt (dVar 5) (dC (dI 0))) (dC (dI 1))) (dVar 5) (dC (dI 0)))
    (dIfS (dAnd (dTest (dOp (gCmp fun i j => decide (j < i)) (dVar 2) (dC (dI 1)))) (dAnd (dTest (dOp (gCmp fun i j => decide (j < i)) (dOp gAt (dVar 5) (dC (dI 0))) (dC (dI 0)))) (dTest (dOp gEqX (dCallX sp__law_spoon [] (dCons (dVar 0) (dCons (dC (dI 3)) dNil))) (dC (dI 0)))))) (dSeq (dAsg (dOp gAt (dLstX (dCons (dOp (gOr gAdd gAddC) (dC (dI 1)) (dCallX sp__law_spoon [] (dCons (dVar 0) (dCons (dC (dI 4)) dNil)))) (dCons (dOp (gOr gAdd gAddC) (dC (dI 1)) (dCallX sp__law_spoon [] (dCons (dVar 0) (dCons (dVar 4) dNil)))) (dCons (dVar 4) dNil)))) (dCallX sp__law_spoon [] (dCons (dVar 0) (dCons (dC (dI 3)) dNil)))) (dgName 8))
    (dDrop (dBM "list" gAppend (dVar 6) (dCons (dTup (dCons (dVar 8) (dCons (dCallX sp__law_program [] (dCons (dVar 0) (dCons (dVar 1) (dCons (dOp gSub (dVar 2) (dC (dI 1))) (dCons (dCB (gII2 fun i j => if j > i then j else i) (dCons (dC (dI 1)) (dCons (dOp gFdiv (dVar 3) (dC (dI 2))) dNil))) (dCons (dVar 4) (dCons (dVar 5) dNil))))))) dNil))) dNil)))) (dDrop (dBM "list" gAppend (dVar 6) (dCons (dOp gAt (dVar 1) (dCallX sp__law_spoon [] (dCons (dVar 0) (dCons (dCB gLenA (dCons (dVar 1) dNil)) dNil)))) dNil)))))
theorem run_body (d : Nat) {D : DEnds} {cars : List Int} {most l' y0 y1 y2 b : Int} {lv : Nat} {z7 z8 : Option DV} {ps : List PyData} (hcars : 1 ≤ cars.length ∧ cars.length ≤ 60 ∧ ∀ x ∈ cars, 0 ≤ x ∧ x ≤ 59) (hlv : 1 ≤ lv ∧ lv ≤ d + 1) (hmost : 1 ≤ most ∧ most ≤ 60) (hl : 1 ≤ l' ∧ l' ≤ 300)
    (hps : ps.length ≤ 100) (sh : Sh b y0 y1 y2) (hb : b + 10 * l' ≤ 10 ^ 7 + 5)
    (q : ∀ z8 a0 a1 a2 b2 l2 s, OkS (lv - 1) s → 0 ≤ l2 → l2 ≤ l' - 1 → (wtD s : Int) + 2 ≤ 130 * (l' - l2) → Sh b2 a0 a1 a2 → b2 ≤ b + 5 + 10 * (l' - 1 - l2) → D.nx ⟨[some (.cell 0), some (.imm (L cars)), some (dI lv), some (dI most), some (dI 1000000000000000000000000000000), some (.cell 1), some (.cell 2), z7, z8], [some (shD a0 a1 a2), some (.lst [dI l2]), some (.lst ((ps ++ [s]).map DV.imm))]⟩) :
    body_program P w K sp__law_spoon (spN__law_program d) D ⟨[some (.cell 0), some (.imm (L cars)), some (dI lv), some (dI most), some (dI 1000000000000000000000000000000), some (.cell 1), some (.cell 2), z7, z8], [some (shD y0 y1 y2), some (.lst [dI l']), some (.lst (ps.map DV.imm))]⟩ := by
  obtain ⟨cl0, cl1, ci⟩ := hcars
  unfold body_program
  walk_at "dy"
  refine r_atC (es := [dI l']) rfl rfl ?_
  walk_at "dy"
  refine r_putL (es := [dI l']) (i := 0) rfl rfl ?_
  simp only [DSt.put, List.set_cons_succ, List.set_cons_zero]
  walk_at "dy"
  -- a car
  have car : ∀ {a0 a1 a2 b2 : Int}, Sh b2 a0 a1 a2 → b2 ≤ b + 1 → dDrop (dBM "list" gAppend (dVar 6) (dCons (dOp gAt (dVar 1) (dCallX sp__law_spoon [] (dCons (dVar 0) (dCons (dCB gLenA (dCons (dVar 1) dNil)) dNil)))) dNil)) D ⟨[some (.cell 0), some (.imm (L cars)), some (dI lv), some (dI most), some (dI 1000000000000000000000000000000), some (.cell 1), some (.cell 2), z7, z8], [some (shD a0 a1 a2), some (.lst [dI (l' - 1)]), some (.lst (ps.map DV.imm))]⟩ := by
    intro a0 a1 a2 b2 sh2 hb2
    walk_at "dy"
    refine r_kM (es := ps.map DV.imm) rfl ?_
    walk_at "dy"
    have hcl : ((List.map DV.imm (List.map PyData.int cars)).length : Int) = (cars.length : Int) := by simp
    rw [hcl]
    refine call_spoon rfl sh2 (by omega) (by omega) (by omega) fun r e0 e1 e2 p0 p1 sh3 => ?_
    obtain ⟨x, hx, hx2⟩ := at_ints p0 p1
    obtain ⟨x0, x1⟩ := ci x hx
    refine r_at rfl rfl hx2 ?_
    walk_at "dy"
    refine r_append (es := ps.map DV.imm) rfl (by rw [List.length_map, sizeLine_eq]; omega) ?_
    have hlog := log_le x0 (by omega : x ≤ 1000000000000000000000000000000)
    have := q z8 e0 e1 e2 (b2 + 1) (l' - 1) (.int x) (.inl ⟨x, rfl, x0, x1⟩) (by omega) (by omega) (by simp only [wtD]; omega) sh3 (by omega)
    rw [List.map_append] at this
    exact this
  by_cases c1 : 1 < lv
  · refine r_iteT (decide_eq_true (by omega)) ?_
    walk_at "dy"
    refine r_atC (es := [dI (l' - 1)]) rfl rfl ?_
    walk_at "dy"
    by_cases c2 : 0 < l' - 1
    · refine r_iteT (decide_eq_true c2) ?_
      walk_at "dy"
      refine call_spoon rfl sh (by omega) (by omega) (by omega) fun r a0 a1 a2 p0 p1 sh1 => ?_
      walk_at "dy"
      by_cases c3 : r = 0
      · refine r_iteT (by simp [c3]) ?_
        walk_at "dy"
        refine r_lst ?_
        walk_at "dy"
        refine call_spoon rfl sh1 (by omega) (by omega) (by omega) fun r1 b0 b1 b2 p2 p3 sh2 => ?_
        walk_at "dy"
        refine call_spoon rfl sh2 (by omega) (by omega) (by omega) fun r2 c0 c1 c2 p4 p5 sh3 => ?_
        walk_at "dy"
        refine call_spoon rfl sh3 (by omega) (by omega) (by omega) fun r3 d0 d1 d2 p6 p7 sh4 => ?_
        obtain ⟨t, ht, t0, t1⟩ := three_at p6 p7 (fun z => 1 ≤ z ∧ z ≤ 1000000000000000000000000000000) (a := 1 + r1) (b := 1 + r2) (c := 1000000000000000000000000000000) ⟨by omega, by omega⟩ ⟨by omega, by omega⟩ ⟨by omega, by omega⟩
        walk_at "dy"
        refine r_at rfl rfl ht ?_
        walk_at "dy"
        refine r_kM (es := ps.map DV.imm) rfl ?_
        walk_at "dy"
        refine r_fdiv (divOk (by omega) (by omega)) ?_
        walk_at "dy"
        have hm : 1 ≤ (if most / 2 > 1 then most / 2 else 1) ∧ (if most / 2 > 1 then most / 2 else 1) ≤ 60 := by split <;> omega
        generalize (if most / 2 > 1 then most / 2 else 1) = m2 at hm ⊢
        refine r_callC2 (k0 := 0) (k1 := 1) (o0 := shD d0 d1 d2) (o1 := .lst [dI (l' - 1)]) rfl rfl rfl rfl (by decide) rfl ?_
        refine ⟨cars, m2, l' - 1, d0, d1, d2, b + 1 + 1 + 1 + 1, lv - 1, ?_, rfl, ⟨cl0, cl1, ci⟩, ⟨by omega, by omega⟩, hm, ⟨by omega, by omega⟩, sh4, by omega, fun g0 g1 g2 l2 xs μ' op q0 q1 q2 q3 q4 q5 => ?_⟩
        · rw [show ((lv - 1 : Nat) : Int) = (lv : Int) - 1 by omega]
          rfl
        refine r_retC2 (o0 := shD g0 g1 g2) (o1 := .lst [dI l2]) rfl rfl q4 q5 ?_
        simp only [List.set_cons_succ, List.set_cons_zero]
        walk_at "dy"
        refine r_append (es := ps.map DV.imm) rfl (by rw [List.length_map, sizeLine_eq]; omega) ?_
        have hlog := log_le (by omega : 0 ≤ t) t1
        have := q (some (dI t)) g0 g1 g2 _ l2 (.tuple [.int t, .tuple xs]) (.inr ⟨t, .tuple xs, rfl, t0, t1, op⟩) q0 (by omega) (by simp only [wtD, wtAll]; omega) q3 (by omega)
        rw [List.map_append] at this
        exact this
      · refine r_iteF (by simp [c3]) ?_
        walk_at "dy"
        exact car sh1 (by omega)
    · refine r_iteF (decide_eq_false c2) ?_
      walk_at "dy"
      exact car sh (by omega)
  · refine r_iteF (decide_eq_false (by omega)) ?_
    walk_at "dy"
    exact car sh (by omega)
theorem goN__law_program (d : Nat) : ∀ ds μ R, spN__law_program (d + 1) ds μ R → t__law_program P w K sp__law_spoon (spN__law_program d) (ends R) ⟨ds.map some ++ List.replicate (9 - ds.length) none, μ⟩ := by
  rintro ds μ R ⟨cars, most, l, x0, x1, x2, c, lv, rfl, rfl, ⟨cl0, cl1, ci⟩, ⟨lv0, lv1⟩, ⟨m0, m1⟩, ⟨l0, l1⟩, sh, hc, h⟩
  unfold t__law_program
  simp only [List.map_cons, List.map_nil, List.length_cons, List.length_nil, Nat.reduceAdd, Nat.reduceSub, List.replicate, List.cons_append, List.nil_append]
  walk_at "dy"
  refine r_lstC ?_
  walk_at "dy"
  refine r_lst ?_
  walk_at "dy"
  refine call_spoon rfl sh (by omega) (by omega) (by omega) fun r1 a0 a1 a2 p0 p1 sh1 => ?_
  walk_at "dy"
  refine call_spoon rfl sh1 (by omega) (by split <;> omega) (by split <;> omega) fun r2 b0 b1 b2 p2 p3 sh2 => ?_
  walk_at "dy"
  refine call_spoon rfl sh2 (by omega) (by omega) (by omega) fun r3 c0 c1 c2 p4 p5 sh3 => ?_
  have p3' : r2 < most := by split at p3 <;> omega
  obtain ⟨z, hz, z0, z1⟩ := three_at p4 p5 (fun z => 1 ≤ z ∧ z ≤ most) (a := 1 + r1) (b := 1 + r2) (c := most) ⟨by omega, by omega⟩ ⟨by omega, by omega⟩ ⟨by omega, by omega⟩
  walk_at "dy"
  refine r_at rfl rfl hz ?_
  walk_at "dy"
  refine r_kR1 (by omega) ?_
  refine ⟨fun i S => InvP cars lv i most c l S,
    ⟨_, _, _, _, _, _, _, [], rfl, by simp, ⟨by omega, Int.le_refl _⟩, by simp [wtAll], by simp, sh3, by omega, by omega, fun _ => ⟨rfl, by omega⟩⟩, fun _ _ _ _ => True.intro, ?_, ?_⟩
  · rintro i y S2 hy ⟨z7, z8, y0, y1, y2, b, l', ps, rfl, hps, ⟨lp0, lp1⟩, hw, hpl, shb, hb, hi1, hi0⟩
    obtain ⟨hi, rfl⟩ := range_get hy
    have hz60 : i < 60 := by omega
    walk_at "dy"
    have go : 1 ≤ l' → b + 10 * l' ≤ 10 ^ 7 + 5 → ∀ D : DEnds, (∀ S, InvP cars lv (i + 1) most c l S → D.nx S) → body_program P w K sp__law_spoon (spN__law_program d) D ⟨[some (.cell 0), some (.imm (L cars)), some (dI lv), some (dI most), some (dI 1000000000000000000000000000000), some (.cell 1), some (.cell 2), some (dI (0 + (i : Int))), z8], [some (shD y0 y1 y2), some (.lst [dI l']), some (.lst (ps.map DV.imm))]⟩ := by
      intro h1 h2 D hD
      refine run_body d ⟨cl0, cl1, ci⟩ ⟨lv0, lv1⟩ ⟨m0, m1⟩ ⟨h1, by omega⟩ (by omega) shb h2 fun z8 a0 a1 a2 b2 l2 s s1 s2 s3 s4 s5 s6 => hD _ ?_
      have bl : b ≤ c + 10 * (l - l') + 5 ∧ b + 5 ≤ c + 10 * (l - l') + 10 := by
        by_cases z : 1 ≤ i
        · have := (hi1 z).1; omega
        · have := (hi0 (by omega)).2; have := (hi0 (by omega)).1; omega
      refine ⟨_, _, a0, a1, a2, b2, l2, ps ++ [s], rfl, fun s' hs' => ?_, ⟨s2, by omega⟩, ?_, by simp; omega, s5, by omega, fun _ => ⟨by omega, by simp, by omega⟩, by omega⟩
      · rcases List.mem_append.mp hs' with z | z
        · exact hps s' z
        · rw [List.mem_singleton.mp z]; exact s1
      · rw [wt_app]
        simp only [wtAll]
        omega
    by_cases ci0 : i = 0
    · refine r_iteT (by simp [ci0]) ?_
      refine r_iteT rfl ?_
      have := hi0 ci0
      exact go (by omega) (by omega) _ fun _ z => z
    · obtain ⟨j1, _, _⟩ := hi1 (by omega)
      refine r_iteF (by simp; omega) ?_
      walk_at "dy"
      refine r_atC (es := [dI l']) rfl rfl ?_
      walk_at "dy"
      by_cases cl : 0 < l'
      · refine r_iteT (decide_eq_true cl) ?_
        exact go (by omega) (by omega) _ fun _ z => z
      · refine r_iteF (decide_eq_false cl) ?_
        walk_at "dy"
        exact ⟨_, _, y0, y1, y2, b, l', ps, rfl, hps, ⟨lp0, lp1⟩, hw, by omega, shb, hb, fun _ => hi1 (by omega), by omega⟩
  · rintro S2 ⟨z7, z8, y0, y1, y2, b, l', ps, rfl, hps, ⟨lp0, lp1⟩, hw, hpl, shb, hb, hi1, hi0⟩
    rw [range_len] at hi1
    obtain ⟨q1, q2, q3⟩ := hi1 (by omega)
    walk_at "dy"
    refine r_tupOf rfl (allImm_map _) ?_
    obtain ⟨m, rfl⟩ : ∃ m, lv = m + 1 := ⟨lv - 1, by omega⟩
    walk_at "dy"
    exact h y0 y1 y2 l' ps [some (shD y0 y1 y2), some (.lst [dI l']), some (.lst (ps.map DV.imm))] (OkP.mk q2 hps) lp0 q3 hw (shb.mono q1) rfl rfl
theorem no__law_program : ∀ ds μ R, ¬ spN__law_program 0 ds μ R := fun ds μ R ⟨_, _, _, _, _, _, _, _, _, _, _, ⟨h1, h2⟩, _⟩ => by omega
abbrev sp__law_program : DSp := spN__law_program 12

end
end K35

set_option Elab.async false
set_option linter.all false
set_option maxRecDepth 100000
set_option autoImplicit false
set_option maxHeartbeats 8000000
namespace K35
open PySem PySem.Spec L2 DL PyProof.Rows
local macro_rules | `(tactic| walk_at "dl1") => `(tactic| ((first | (with_reducible apply r_seq) | (with_reducible apply r_asg) | ((with_reducible apply r_gn); try simp only [DSt.set, List.set_cons_succ, List.set_cons_zero, List.set_nil]) | ((with_reducible apply r_gtwo); try simp only [DSt.set, List.set_cons_succ, List.set_cons_zero, List.set_nil]) | ((with_reducible apply r_var); · exact rfl) | (with_reducible apply r_c) | (with_reducible apply r_op) | (with_reducible apply r_un) | (with_reducible apply r_test) | (with_reducible apply r_kTest) | (with_reducible apply r_and) | (with_reducible apply r_or) | (with_reducible apply r_not) | (with_reducible apply r_if) | (with_reducible apply r_andV) | (with_reducible apply r_orV) | (with_reducible apply r_notV) | (with_reducible apply r_chain) | (with_reducible apply r_nil) | (with_reducible apply r_cons) | (with_reducible apply r_tup) | ((with_reducible apply r_kTup); (· exact rfl); (· exact Nat.le_of_ble_eq_true rfl)) | ((with_reducible apply r_kLstC); (· exact Nat.le_of_ble_eq_true rfl)) | ((with_reducible apply r_kLst); (· exact rfl); (· exact Nat.le_of_ble_eq_true rfl)) | (with_reducible apply r_cb) | (with_reducible apply r_cmp) | (with_reducible apply r_add) | (with_reducible apply r_sub) | (with_reducible apply r_neg) | (with_reducible apply r_min) | ((with_reducible apply r_isN); · exact rfl) | ((with_reducible apply r_notN); · exact rfl) | ((with_reducible apply r_isi); · decide) | ((with_reducible apply r_len); (· exact rfl); (· exact rfl)) | (with_reducible apply r_call) | (with_reducible apply r_retI) | (with_reducible apply r_for) | (with_reducible apply r_dc) | (with_reducible apply r_iAny) | ((with_reducible apply r_kAny); · exact rfl) | (with_reducible apply r_iR1) | (with_reducible apply r_iR2) | (with_reducible apply r_iEn) | ((with_reducible apply r_kEn); · exact rfl) | (with_reducible apply r_drop) | (with_reducible apply r_retK) | (with_reducible apply r_kRet) | (with_reducible apply r_ifS) | (with_reducible apply r_next) | (with_reducible apply r_yes) | (with_reducible apply r_brk) | (with_reducible apply r_cont)) <;> try dsimp only))
local macro_rules | `(tactic| walk_at "dl") => `(tactic| (repeat walk_at "dl1"))
local macro_rules | `(tactic| walk_at "dlm") => `(tactic| ((first | walk_at "dl1" | ((first | (with_reducible apply r_bm) | (with_reducible apply r_bm0) | (with_reducible apply r_eqI) | (with_reducible apply r_neI) | (with_reducible apply r_eqS) | (with_reducible apply r_neS)) <;> try dsimp only))))
local macro_rules | `(tactic| walk_at "dx") => `(tactic| (repeat walk_at "dlm"))
local macro_rules | `(tactic| walk_at "dy1") => `(tactic| ((first | walk_at "dlm" | ((first | (with_reducible apply r_dput) | (with_reducible apply r_sl) | (with_reducible apply r_noPart) | (with_reducible apply r_part) | (with_reducible apply r_kPart) | (with_reducible apply r_rg1) | (with_reducible apply r_kRg1) | (with_reducible apply r_rg2) | (with_reducible apply r_kRg2) | (with_reducible apply r_rev) | (with_reducible apply r_lstRg) | (with_reducible apply r_tupRg) | (with_reducible apply r_newD) | (with_reducible apply r_par) | ((with_reducible apply r_kPar); try simp only [DSt.set, List.set_cons_succ, List.set_cons_zero, List.set_nil]) | (with_reducible apply r_parN) | ((with_reducible apply r_kParN); (· exact Nat.le_of_ble_eq_true rfl); (· exact rfl); (try simp only [DSt.set, DSt.new, List.set_cons_succ, List.set_cons_zero, List.set_nil, List.cons_append, List.nil_append, List.length_cons, List.length_nil, Nat.reduceAdd]))) <;> try dsimp only))))
local macro_rules | `(tactic| walk_at "dy") => `(tactic| (repeat walk_at "dy1"))
section
variable {P : Program} {w : World} {K : PySem.W.Frag}
/-! ### _law_changed -/
def W35 : Int := 1000000000000000000000000000000
/-- what may stand for a step -/
def oddL : List PyData := [.none, .bool true, .bool false, .str "0", .str "", .int 60, .int 61, .int (-1), .int (-2), .int 1000000000000000000000000000000, .list [.int 0], .dict [], .tuple [], .tuple [.int 0], .tuple [.int 1, .tuple []], .tuple [.int 0, .tuple [.int 1]], .tuple [.int (-1), .tuple [.int 1]],
  .tuple [.bool true, .tuple [.int 1]], .tuple [.none, .tuple [.int 1]], .tuple [.list [.int 1], .tuple [.int 1]], .tuple [.dict [], .tuple [.int 1]],
  .tuple [.str "2", .tuple [.int 1]], .tuple [.int 2, .int 1], .tuple [.int 2, .list [.int 1]], .tuple [.int 2, .tuple [.int 1], .int 3], .tuple [.int (1000000000000000000000000000000 + 1), .tuple [.int 1]], .tuple [.int 2, .tuple [.int 60]], .tuple [.int 0, .int 1],
  .tuple [.int 1000000000000000000000000000000, .tuple [.int 59]], .tuple [.int 1, .tuple [.tuple [.int 1, .tuple [.int 1]]]], .int 0, .int 59, .list [.int 2, .tuple [.int 1]], .tuple [.tuple [.int 2, .tuple [.int 1]]], .tuple [.tuple [.int 1], .int 2], .tuple [.int 2, .tuple [.int 1, .tuple [.int 3]]]]
def fineB (u : PyData) : Bool := u.showable && (noL u || !u.hasDict) && decide (u.depth ≤ 4) && decide (wtD u ≤ 300)
theorem odd_ok : oddL.all fineB = true := by decide +kernel
theorem shAll : ∀ xs : List PyData, PyData.showableAll xs = xs.all PyData.showable
  | [] => by simp [PyData.showableAll]
  | x :: xs => by rw [PyData.showableAll, shAll xs, List.all_cons]
theorem noAll : ∀ xs : List PyData, noLAll xs = xs.all noL
  | [] => by simp [noLAll]
  | x :: xs => by rw [noLAll, noAll xs, List.all_cons]
theorem hdAll : ∀ xs : List PyData, PyData.hasDictAll xs = xs.any PyData.hasDict
  | [] => by simp [PyData.hasDictAll]
  | x :: xs => by rw [PyData.hasDictAll, hdAll xs, List.any_cons]
theorem dpAll {D : Nat} : ∀ {xs : List PyData}, (∀ s ∈ xs, s.depth ≤ D) → PyData.depthAll xs ≤ D
  | [], _ => by simp [PyData.depthAll]
  | x :: xs, h => by
    have h1 := h x List.mem_cons_self
    have h2 := dpAll (xs := xs) fun s hs => h s (List.mem_cons_of_mem _ hs)
    rw [PyData.depthAll]
    omega
def FineU (u : PyData) (D : Nat) : Prop := u.showable = true ∧ (noL u = true ∨ u.hasDict = false) ∧ u.depth ≤ D
def FineS (u : PyData) (D : Nat) : Prop := u.showable = true ∧ noL u = true ∧ u.hasDict = false ∧ u.depth ≤ D
theorem FineS.u {u : PyData} {D : Nat} (h : FineS u D) : FineU u D := ⟨h.1, .inl h.2.1, h.2.2.2⟩
theorem fine_tup {D : Nat} {xs : List PyData} (h : ∀ s ∈ xs, FineS s D) : FineS (.tuple xs) (D + 1) := by
  refine ⟨?_, ?_, ?_, ?_⟩
  · rw [PyData.showable, shAll, List.all_eq_true]; exact fun s hs => (h s hs).1
  · rw [noL, noAll, List.all_eq_true]; exact fun s hs => (h s hs).2.1
  · rw [PyData.hasDict, hdAll, List.any_eq_false]; exact fun s hs => by rw [(h s hs).2.2.1]; decide
  · rw [depth_tup]; have := dpAll (D := D) fun s hs => (h s hs).2.2.2; omega
/-- one item that is only fine -/
theorem fine_put {D : Nat} {xs ys : List PyData} {u : PyData} (h1 : ∀ s ∈ xs, FineS s D) (h2 : ∀ s ∈ ys, FineS s D) (hu : FineU u D) : FineU (.tuple (xs ++ [u] ++ ys)) (D + 1) := by
  have mem : ∀ s, s ∈ xs ++ [u] ++ ys → FineS s D ∨ s = u := fun s hs => by
    rcases List.mem_append.mp hs with z | z
    · rcases List.mem_append.mp z with z | z
      · exact .inl (h1 s z)
      · exact .inr (List.mem_singleton.mp z)
    · exact .inl (h2 s z)
  refine ⟨?_, ?_, ?_⟩
  · rw [PyData.showable, shAll, List.all_eq_true]
    intro s hs
    rcases mem s hs with z | z
    · exact z.1
    · rw [z]; exact hu.1
  · rcases hu.2.1 with q | q
    · refine .inl ?_
      rw [noL, noAll, List.all_eq_true]
      intro s hs
      rcases mem s hs with z | z
      · exact z.2.1
      · rw [z]; exact q
    · refine .inr ?_
      rw [PyData.hasDict, hdAll, List.any_eq_false]
      intro s hs
      rcases mem s hs with z | z
      · rw [z.2.2.1]; decide
      · rw [z, q]; decide
  · rw [depth_tup]
    have := dpAll (D := D) (xs := xs ++ [u] ++ ys) fun s hs => by
      rcases mem s hs with z | z
      · exact z.2.2.2
      · rw [z]; exact hu.2.2
    omega
theorem FineS.up {u : PyData} {D E : Nat} (h : FineS u D) (e : D ≤ E) : FineS u E := ⟨h.1, h.2.1, h.2.2.1, Nat.le_trans h.2.2.2 e⟩
theorem fine_int {i : Int} (h0 : 0 ≤ i) (h1 : i ≤ 1000000000000000000000000000000) (D : Nat) : FineS (.int i) D := by
  have := log_le h0 h1
  refine ⟨?_, rfl, rfl, Nat.zero_le _⟩
  simp only [PyData.showable, decide_eq_true_eq]
  omega
theorem okP_fine : ∀ (l : Nat) (v : PyData), OkP l v → FineS v (2 * l - 1)
  | 0, _, h => h.elim
  | l + 1, v, h => by
    obtain ⟨m, xs, e, rfl, _, hs⟩ := h.tup
    cases e
    rw [show 2 * (l + 1) - 1 = 2 * l + 1 by omega]
    refine fine_tup fun s hm => ?_
    rcases hs s hm with ⟨i, rfl, i0, i1⟩ | ⟨t, p, rfl, t0, t1, hp⟩
    · exact fine_int i0 (by omega) _
    · have ih := okP_fine l p hp
      have l1 : 1 ≤ l := by
        cases l with
        | zero => exact hp.elim
        | succ l => omega
      refine (fine_tup (D := 2 * l - 1) fun s hm => ?_).up (by omega)
      rcases List.mem_cons.mp hm with e | e
      · rw [e]; exact fine_int (by omega) t1 _
      · rw [List.mem_singleton.mp e]; exact ih
theorem okS_fine {l : Nat} {s : PyData} (h : OkS l s) : FineS s (2 * l) := by
  rcases h with ⟨i, rfl, i0, i1⟩ | ⟨t, p, rfl, t0, t1, hp⟩
  · exact fine_int i0 (by omega) _
  · have ih := okP_fine l p hp
    have l1 : 1 ≤ l := by
      cases l with
      | zero => exact hp.elim
      | succ l => omega
    refine (fine_tup (D := 2 * l - 1) fun s hm => ?_).up (by omega)
    rcases List.mem_cons.mp hm with e | e
    · rw [e]; exact fine_int (by omega) t1 _
    · rw [List.mem_singleton.mp e]; exact ih
theorem odd_fine {u : PyData} (h : u ∈ oddL) : FineU u 4 ∧ wtD u ≤ 300 := by
  have := List.all_eq_true.mp odd_ok u h
  unfold fineB at this
  simp only [Bool.and_eq_true, Bool.or_eq_true, Bool.not_eq_true', decide_eq_true_eq] at this
  exact ⟨⟨this.1.1.1, this.1.1.2, this.1.2⟩, this.2⟩
theorem wt_len : ∀ xs : List PyData, xs.length ≤ wtAll xs
  | [] => by simp [wtAll]
  | x :: xs => by have := wt_len xs; rw [wtAll, List.length_cons]; omega
theorem wt_mem : ∀ {xs : List PyData} {s : PyData}, s ∈ xs → wtD s ≤ wtAll xs
  | x :: xs, s, h => by
    rw [wtAll]
    rcases List.mem_cons.mp h with e | h
    · rw [e]; omega
    · have := wt_mem h; omega
def spN__law_changed (d : Nat) : DSp := fun ds μ R => ∃ v x0 x1 x2 c, ∃ lv : Nat, ds = [.cell 0, .imm v] ∧ μ = [some (shD x0 x1 x2)] ∧ OkP lv v ∧ lv ≤ d ∧ wtD v ≤ 100000 ∧ Sh c x0 x1 x2 ∧ c + 3 * lv ≤ 10 ^ 8 ∧
  ∀ y0 y1 y2 us μ', FineU (.tuple us) (2 * lv + 4) → wtD (.tuple us) ≤ wtD v + 400 → Sh (c + 3 * lv) y0 y1 y2 → μ'[0]? = some (some (shD y0 y1 y2)) → R (.imm (.tuple us)) μ'
theorem cut_from {A : Type} (xs : List A) (n : Nat) : DL.cutD xs (some (n : Int)) none = xs.drop n := by
  unfold DL.cutD
  rw [HT.sIx_none, HT.sIx_nat]
  by_cases c : n ≤ xs.length
  · rw [Nat.min_eq_left c, List.take_of_length_le (by rw [List.length_drop]; omega)]
  · rw [Nat.min_eq_right (by omega), List.drop_length, List.drop_of_length_le (by omega), List.take_nil]
def odd_part (P : Program) (w : World) (K : PySem.W.Frag) (sp__law_spoon : DSp) : DTS :=
  (dSeq (dAsg (dLstX (dCons (dC dN) (dCons (dC (dB true)) (dCons (dC (dB false)) (dCons (dC (dS "0")) (dCons (dC (dS "")) (dCons (dC (dI 60)) (dCons (dC (dI 61)) (dCons (dUn gNeg (dC (dI 1))) (dCons (dUn gNeg (dC (dI 2))) (dCons (dOp gPow (dC (dI 10)) (dC (dI 30))) (dCons (dLstX (dCons (dC (dI 0)) dNil)) (dCons dNewDO (dCons (dTup dNil) (dCons (dTup (dCons (dC (dI 0)) dNil)) (dCons (dTup (dCons (dC (dI 1)) (dCons (dTup dNil) dNil))) (dCons (dTup (dCons (dC (dI 0)) (dCons (dTup (dCons (dC (dI 1)) dNil)) dNil))) (dCons (dTup (dCons (dUn gNeg (dC (dI 1))) (dCons (dTup (dCons (dC (dI 1)) dNil)) dNil))) dNil)))))))))))))))))) (dgName 4))
    (dSeq (dAsg (dOp (gOr gAdd gAddC) (dVar 4) (dLstX (dCons (dTup (dCons (dC (dB true)) (dCons (dTup (dCons (dC (dI 1)) dNil)) dNil))) (dCons (dTup (dCons (dC dN) (dCons (dTup (dCons (dC (dI 1)) dNil)) dNil))) (dCons (dTup (dCons (dLstX (dCons (dC (dI 1)) dNil)) (dCons (dTup (dCons (dC (dI 1)) dNil)) dNil))) (dCons (dTup (dCons dNewDO (dCons (dTup (dCons (dC (dI 1)) dNil)) dNil))) dNil)))))) (dgName 4))
    (dSeq (dAsg (dOp (gOr gAdd gAddC) (dVar 4) (dLstX (dCons (dTup (dCons (dC (dS "2")) (dCons (dTup (dCons (dC (dI 1)) dNil)) dNil))) (dCons (dTup (dCons (dC (dI 2)) (dCons (dC (dI 1)) dNil))) (dCons (dTup (dCons (dC (dI 2)) (dCons (dLstX (dCons (dC (dI 1)) dNil)) dNil))) (dCons (dTup (dCons (dC (dI 2)) (dCons (dTup (dCons (dC (dI 1)) dNil)) (dCons (dC (dI 3)) dNil)))) (dCons (dTup (dCons (dOp (gOr gAdd gAddC) (dOp gPow (dC (dI 10)) (dC (dI 30))) (dC (dI 1))) (dCons (dTup (dCons (dC (dI 1)) dNil)) dNil))) (dCons (dTup (dCons (dC (dI 2)) (dCons (dTup (dCons (dC (dI 60)) dNil)) dNil))) (dCons (dTup (dCons (dC (dI 0)) (dCons (dC (dI 1)) dNil))) dNil))))))))) (dgName 4))
    (dSeq (dAsg (dOp (gOr gAdd gAddC) (dVar 4) (dLstX (dCons (dTup (dCons (dOp gPow (dC (dI 10)) (dC (dI 30))) (dCons (dTup (dCons (dC (dI 59)) dNil)) dNil))) (dCons (dTup (dCons (dC (dI 1)) (dCons (dTup (dCons (dTup (dCons (dC (dI 1)) (dCons (dTup (dCons (dC (dI 1)) dNil)) dNil))) dNil)) dNil))) (dCons (dC (dI 0)) (dCons (dC (dI 59)) (dCons (dLstX (dCons (dC (dI 2)) (dCons (dTup (dCons (dC (dI 1)) dNil)) dNil))) (dCons (dTup (dCons (dTup (dCons (dC (dI 2)) (dCons (dTup (dCons (dC (dI 1)) dNil)) dNil))) dNil)) (dCons (dTup (dCons (dTup (dCons (dC (dI 1)) dNil)) (dCons (dC (dI 2)) dNil))) (dCons (dTup (dCons (dC (dI 2)) (dCons (dTup (dCons (dC (dI 1)) (dCons (dTup (dCons (dC (dI 3)) dNil)) dNil))) dNil))) dNil)))))))))) (dgName 4))
    (dRetW P w K (dOp (gOr gAdd gAddC) (dOp (gOr gAdd gAddC) (dSl (dVar 1) dNoPart (dPart (dVar 2))) (dTup (dCons (dOp gAt (dVar 4) (dCallX sp__law_spoon [] (dCons (dVar 0) (dCons (dCB gLenA (dCons (dVar 4) dNil)) dNil)))) dNil))) (dSl (dVar 1) (dPart (dOp (gOr gAdd gAddC) (dVar 2) (dC (dI 1)))) dNoPart)))))))
theorem run_odd {R : DV → List (Option DO) → Prop} {xs : List PyData} {s : PyData} {a : Nat} {y0 y1 y2 b : Int} (ha : a ≤ xs.length) (hx : xs.length ≤ 100000) (sh : Sh b y0 y1 y2) (hb : b ≤ 10 ^ 9)
    (q : ∀ u a0 a1 a2 μ', u ∈ oddL → Sh (b + 1) a0 a1 a2 → μ'[0]? = some (some (shD a0 a1 a2)) → R (.imm (.tuple (xs.take a ++ [u] ++ xs.drop (a + 1)))) μ') :
    odd_part P w K sp__law_spoon (ends R) ⟨[some (.cell 0), some (.imm (.tuple xs)), some (dI a), some (.imm s), none], [some (shD y0 y1 y2)]⟩ := by
  have p30 : (10 : Int) ^ (30 : Int).toNat = 1000000000000000000000000000000 := rfl
  unfold odd_part
  walk_at "dy"
  repeat (first
    | (refine r_lst ?_
       walk_at "dy")
    | (refine r_newDI ?_
       walk_at "dy")
    | (refine r_pow (by unfold PowOk; decide) ?_
       rw [p30]
       walk_at "dy")
    | (refine r_addLI (by simp [sizeLine_eq]) ?_
       walk_at "dy"))
  change kSl _ (.imm (.tuple xs)) none (some (a : Int)) ⟨[some (.cell 0), some (.imm (.tuple xs)), some (dI a), some (.imm s), some (.imm (.list oddL))], [some (shD y0 y1 y2)]⟩
  refine r_kSl rfl (allImm_map _) ?_
  rw [if_neg (by decide : ¬ false = true), cut_to]
  walk_at "dy"
  rw [show ((List.map DV.imm oddL).length : Int) = 36 from rfl]
  refine call_spoon rfl sh (by omega) (by omega) (by omega) fun r a0 a1 a2 p0 p1 sh1 => ?_
  simp only [List.set_cons_zero]
  have hr : r.toNat < oddL.length := by show r.toNat < 36; omega
  refine r_at (e := .imm oddL[r.toNat]) rfl rfl ?_ ?_
  · have : atI (oddL.map DV.imm) ((r.toNat : Nat) : Int) = some (.imm oddL[r.toNat]) := atI_nat (by rw [List.getElem?_map, List.getElem?_eq_getElem hr]; rfl)
    rwa [show ((r.toNat : Nat) : Int) = r by omega] at this
  have hm := List.getElem_mem hr
  generalize oddL[r.toNat] = u at hm ⊢
  walk_at "dy"
  refine r_addT (by simp [sizeLine_eq]; omega) ?_
  walk_at "dy"
  rw [show (a : Int) + 1 = ((a + 1 : Nat) : Int) by omega]
  refine r_kSl rfl (allImm_map _) ?_
  rw [if_neg (by decide : ¬ false = true), cut_from]
  refine r_addT (by simp [sizeLine_eq]; omega) ?_
  walk_at "dy"
  exact q u a0 a1 a2 _ hm sh1 rfl
theorem goN__law_changed (d : Nat) : ∀ ds μ R, spN__law_changed (d + 1) ds μ R → t__law_changed P w K sp__law_spoon (spN__law_changed d) (ends R) ⟨ds.map some ++ List.replicate (5 - ds.length) none, μ⟩ := by
  rintro ds μ R ⟨v, x0, x1, x2, c, lv, rfl, rfl, op, lvd, hw, sh, hc, h⟩
  obtain ⟨m, xs, rfl, rfl, xn, hs⟩ := op.tup
  have hxl := wt_len xs
  have hwe : wtD (.tuple xs) = wtAll xs + 4 := by simp only [wtD]
  have hl0 : 0 < xs.length := List.length_pos_iff.mpr xn
  have hlen : ((List.map DV.imm xs).length : Int) = (xs.length : Int) := by simp
  unfold t__law_changed
  simp only [List.map_cons, List.map_nil, List.length_cons, List.length_nil, Nat.reduceAdd, Nat.reduceSub, List.replicate, List.cons_append, List.nil_append]
  walk_at "dy"
  rw [hlen]
  refine call_spoon rfl sh (by omega) (by omega) (by omega) fun r y0 y1 y2 p0 p1 sh1 => ?_
  simp only [List.set_cons_zero]
  obtain ⟨a, rfl⟩ : ∃ a : Nat, r = (a : Int) := ⟨r.toNat, by omega⟩
  have hal : a < xs.length := by omega
  have hsa := hs xs[a] (List.getElem_mem hal)
  have hwa := wt_mem (List.getElem_mem hal)
  have split : xs = xs.take a ++ xs[a] :: xs.drop (a + 1) := by rw [← List.drop_eq_getElem_cons hal, List.take_append_drop]
  have hwx : wtAll xs = wtAll (xs.take a) + (wtD xs[a] + 2 + wtAll (xs.drop (a + 1))) := by
    conv => lhs; rw [split]
    rw [wt_app, wtAll]
  generalize xs[a] = s at hsa hwa hwx split
  walk_at "dy"
  refine r_at (e := .imm s) rfl rfl (atI_nat (by
    rw [List.getElem?_map, show xs[a]? = some s by rw [split, List.getElem?_append_right (by rw [List.length_take]; omega), List.length_take, show a - min a xs.length = 0 by omega]; rfl]; rfl)) ?_
  walk_at "dy"
  have fin : ∀ {a0 a1 a2 b : Int}, Sh b a0 a1 a2 → b ≤ c + 2 → odd_part P w K sp__law_spoon (ends R) ⟨[some (.cell 0), some (.imm (.tuple xs)), some (dI a), some (.imm s), none], [some (shD a0 a1 a2)]⟩ := by
    intro a0 a1 a2 b sh2 hb
    refine run_odd (by omega) (by omega) sh2 (by omega) fun u e0 e1 e2 μ' hu sh3 hm => ?_
    obtain ⟨f1, f2⟩ := odd_fine hu
    refine h e0 e1 e2 _ μ' ?_ ?_ (sh3.mono (by omega)) hm
    · refine (show ∀ D, D + 1 ≤ 2 * (m + 1) + 4 → FineU (.tuple (xs.take a ++ [u] ++ xs.drop (a + 1))) (D + 1) → FineU _ _ from fun D hD z => ⟨z.1, z.2.1, Nat.le_trans z.2.2 hD⟩) (2 * m + 4) (by omega) (fine_put (fun s hs' => ?_) (fun s hs' => ?_) ⟨f1.1, f1.2.1, by have := f1.2.2; omega⟩)
      · exact (okS_fine (hs s (List.mem_of_mem_take hs'))).up (by omega)
      · exact (okS_fine (hs s (List.mem_of_mem_drop hs'))).up (by omega)
    · simp only [wtD, wt_app, wtAll]
      omega
  rcases hsa with ⟨i, rfl, i0, i1⟩ | ⟨t, p, rfl, t0, t1, hp⟩
  · refine r_iteF rfl ?_
    exact fin sh1 (by omega)
  · refine r_iteT rfl ?_
    walk_at "dy"
    refine call_spoon rfl sh1 (by omega) (by omega) (by omega) fun r a0 a1 a2 p0 p1 sh2 => ?_
    simp only [List.set_cons_zero]
    walk_at "dy"
    by_cases c1 : 0 < r
    · refine r_iteT (decide_eq_true c1) ?_
      walk_at "dy"
      refine r_kSl rfl (allImm_map _) ?_
      rw [if_neg (by decide : ¬ false = true), cut_to]
      walk_at "dy"
      refine r_at (e := dI t) rfl rfl rfl ?_
      walk_at "dy"
      refine r_at (e := .imm p) rfl rfl rfl ?_
      walk_at "dy"
      have hwp : wtD p ≤ 100000 ∧ wtD (.tuple [.int t, p]) = wtD (.int t) + 2 + (wtD p + 2) + 4 := by
        have e : wtD (.tuple [.int t, p]) = wtD (.int t) + 2 + (wtD p + 2 + 0) + 4 := by simp only [wtD, wtAll]
        omega
      refine r_callC (k := 0) (o := shD a0 a1 a2) (es' := [.cell 0, .imm p]) (by simp) rfl rfl ?_
      refine ⟨p, a0, a1, a2, c + 1 + 1, m, rfl, rfl, hp, by omega, hwp.1, sh2, by omega, fun e0 e1 e2 us μ' f1 f2 sh3 hm => ?_⟩
      refine r_retC (o := shD e0 e1 e2) rfl hm ?_
      simp only [List.set_cons_zero]
      walk_at "dy"
      refine r_addT (by simp [sizeLine_eq]; omega) ?_
      walk_at "dy"
      rw [show (a : Int) + 1 = ((a + 1 : Nat) : Int) by omega]
      refine r_kSl rfl (allImm_map _) ?_
      rw [if_neg (by decide : ¬ false = true), cut_from]
      refine r_addT (by simp [sizeLine_eq]; omega) ?_
      walk_at "dy"
      refine h e0 e1 e2 _ _ ?_ ?_ (sh3.mono (by omega)) rfl
      · have hin : FineU (.tuple [.int t, .tuple us]) (2 * m + 5) := fine_put (xs := [.int t]) (ys := []) (D := 2 * m + 4) (fun s hs' => by rw [List.mem_singleton.mp hs']; exact fine_int (by omega) t1 _) (fun s hs' => by cases hs') f1
        refine (show ∀ D, D + 1 ≤ 2 * (m + 1) + 4 → FineU (.tuple (xs.take a ++ [.tuple [.int t, .tuple us]] ++ xs.drop (a + 1))) (D + 1) → FineU _ _ from fun D hD z => ⟨z.1, z.2.1, Nat.le_trans z.2.2 hD⟩) (2 * m + 5) (by omega) (fine_put (fun s hs' => ?_) (fun s hs' => ?_) hin)
        · exact (okS_fine (hs s (List.mem_of_mem_take hs'))).up (by omega)
        · exact (okS_fine (hs s (List.mem_of_mem_drop hs'))).up (by omega)
      · have e1 : wtD (.tuple [.int t, .tuple us]) = wtD (.int t) + 2 + (wtD (.tuple us) + 2 + 0) + 4 := by simp only [wtD, wtAll]
        have e2 : wtD (.tuple (xs.take a ++ [.tuple [.int t, .tuple us]] ++ xs.drop (a + 1))) = wtAll (xs.take a) + (wtD (.tuple [.int t, .tuple us]) + 2 + 0) + wtAll (xs.drop (a + 1)) + 4 := by simp only [wtD, wt_app, wtAll]
        rw [e2, e1, hwe]
        omega
    · refine r_iteF (decide_eq_false c1) ?_
      exact fin sh2 (by omega)
theorem no__law_changed : ∀ ds μ R, ¬ spN__law_changed 0 ds μ R := fun ds μ R ⟨_, _, _, _, _, lv, _, _, h, h2, _⟩ => by
  obtain ⟨m, _, e, _⟩ := h.tup
  omega
abbrev sp__law_changed : DSp := spN__law_changed 12

end
end K35

set_option Elab.async false
set_option linter.all false
set_option maxRecDepth 100000
set_option autoImplicit false
set_option maxHeartbeats 8000000
namespace K35
open PySem PySem.Spec L2 DL PyProof.Rows
local macro_rules | `(tactic| walk_at "dl1") => `(tactic| ((first | (with_reducible apply r_seq) | (with_reducible apply r_asg) | ((with_reducible apply r_gn); try simp only [DSt.set, List.set_cons_succ, List.set_cons_zero, List.set_nil]) | ((with_reducible apply r_gtwo); try simp only [DSt.set, List.set_cons_succ, List.set_cons_zero, List.set_nil]) | ((with_reducible apply r_var); · exact rfl) | (with_reducible apply r_c) | (with_reducible apply r_op) | (with_reducible apply r_un) | (with_reducible apply r_test) | (with_reducible apply r_kTest) | (with_reducible apply r_and) | (with_reducible apply r_or) | (with_reducible apply r_not) | (with_reducible apply r_if) | (with_reducible apply r_andV) | (with_reducible apply r_orV) | (with_reducible apply r_notV) | (with_reducible apply r_chain) | (with_reducible apply r_nil) | (with_reducible apply r_cons) | (with_reducible apply r_tup) | ((with_reducible apply r_kTup); (· exact rfl); (· exact Nat.le_of_ble_eq_true rfl)) | ((with_reducible apply r_kLstC); (· exact Nat.le_of_ble_eq_true rfl)) | ((with_reducible apply r_kLst); (· exact rfl); (· exact Nat.le_of_ble_eq_true rfl)) | (with_reducible apply r_cb) | (with_reducible apply r_cmp) | (with_reducible apply r_add) | (with_reducible apply r_sub) | (with_reducible apply r_neg) | (with_reducible apply r_min) | ((with_reducible apply r_isN); · exact rfl) | ((with_reducible apply r_notN); · exact rfl) | ((with_reducible apply r_isi); · decide) | ((with_reducible apply r_len); (· exact rfl); (· exact rfl)) | (with_reducible apply r_call) | (with_reducible apply r_retI) | (with_reducible apply r_for) | (with_reducible apply r_dc) | (with_reducible apply r_iAny) | ((with_reducible apply r_kAny); · exact rfl) | (with_reducible apply r_iR1) | (with_reducible apply r_iR2) | (with_reducible apply r_iEn) | ((with_reducible apply r_kEn); · exact rfl) | (with_reducible apply r_drop) | (with_reducible apply r_retK) | (with_reducible apply r_kRet) | (with_reducible apply r_ifS) | (with_reducible apply r_next) | (with_reducible apply r_yes) | (with_reducible apply r_brk) | (with_reducible apply r_cont)) <;> try dsimp only))
local macro_rules | `(tactic| walk_at "dl") => `(tactic| (repeat walk_at "dl1"))
local macro_rules | `(tactic| walk_at "dlm") => `(tactic| ((first | walk_at "dl1" | ((first | (with_reducible apply r_bm) | (with_reducible apply r_bm0) | (with_reducible apply r_eqI) | (with_reducible apply r_neI) | (with_reducible apply r_eqS) | (with_reducible apply r_neS)) <;> try dsimp only))))
local macro_rules | `(tactic| walk_at "dx") => `(tactic| (repeat walk_at "dlm"))
local macro_rules | `(tactic| walk_at "dy1") => `(tactic| ((first | walk_at "dlm" | ((first | (with_reducible apply r_dput) | (with_reducible apply r_sl) | (with_reducible apply r_noPart) | (with_reducible apply r_part) | (with_reducible apply r_kPart) | (with_reducible apply r_rg1) | (with_reducible apply r_kRg1) | (with_reducible apply r_rg2) | (with_reducible apply r_kRg2) | (with_reducible apply r_rev) | (with_reducible apply r_lstRg) | (with_reducible apply r_tupRg) | (with_reducible apply r_newD) | (with_reducible apply r_par) | ((with_reducible apply r_kPar); try simp only [DSt.set, List.set_cons_succ, List.set_cons_zero, List.set_nil]) | (with_reducible apply r_parN) | ((with_reducible apply r_kParN); (· exact Nat.le_of_ble_eq_true rfl); (· exact rfl); (try simp only [DSt.set, DSt.new, List.set_cons_succ, List.set_cons_zero, List.set_nil, List.cons_append, List.nil_append, List.length_cons, List.length_nil, Nat.reduceAdd]))) <;> try dsimp only))))
local macro_rules | `(tactic| walk_at "dy") => `(tactic| (repeat walk_at "dy1"))
section
variable {P : Program} {w : World} {K : PySem.W.Frag}
/-! ### the law -/
theorem r_retN {S : DSt} {R : DV → DSt → Prop} {o : DO} {j : Nat} {μ' : List (Option DO)} (hb : o.bare = true) (hm : μ'[j]? = some (some o)) (q : R (.cell S.μ.length) ⟨S.ρ, S.μ ++ [some o]⟩) : retK R S [] (.cell j) μ' := by
  unfold retK
  dsimp only
  rw [dif_neg (by simp), hm]
  dsimp only
  rw [if_pos hb]
  exact q
theorem cellsOf_one {μ : List (Option DO)} {k : Nat} {o : DO} (h : μ[k]? = some (some o)) (b : o.bare = true) : cellsOf μ [k] = [some o] := by
  show [(match μ[k]? with | some (some o) => if o.bare = true then some o else none | _ => none)] = _
  rw [h]
  dsimp only
  rw [if_pos b]
theorem two_at {a b r : Int} (h0 : 0 ≤ r) (h1 : r < 2) : ∃ x, atI (([.int a, .int b] : List PyData).map DV.imm) r = some (dI x) ∧ (x = a ∨ x = b) := by
  have : r = 0 ∨ r = 1 := by omega
  rcases this with rfl | rfl
  · exact ⟨a, rfl, .inl rfl⟩
  · exact ⟨b, rfl, .inr rfl⟩
theorem call_bowl_k {S : DSt} {R : DV → DSt → Prop} {ns : List Int} {k : Int} (k0 : 0 ≤ k) (k1 : k ≤ 100) (q : ∀ x0 x1 x2, Sh 0 x0 x1 x2 → R (.cell S.μ.length) ⟨S.ρ, S.μ ++ [some (shD x0 x1 x2)]⟩) : ∃ ks, kCall sp__law_bowl R ([.scr ns, dI k] ++ []) S ks := by
  refine r_callI rfl ⟨ns, _, rfl, rfl, k0, k1, fun x0 x1 x2 μ' sh hm => ?_⟩
  exact r_retN (o := shD x0 x1 x2) rfl hm (q x0 x1 x2 sh)
theorem repr_fine {u : PyData} {D : Nat} (h : FineU u D) (hd : D ≤ 40) (hw : wtD u ≤ 1000000) {S : DSt} {R : DV → DSt → Prop} (q : R (dS u.shown) S) : gReprN [.imm u] S R := by
  by_cases c : u.hasDict = false
  · exact r_reprNX (r_reprXI ⟨h.1, by omega, by have := h.2.2; omega, c⟩ q)
  · have n : noL u = true := h.2.1.resolve_right c
    refine r_reprN ⟨h.1, by omega, by have := h.2.2; omega, n⟩ ?_ q
    cases u with
    | tuple _ => rfl
    | dict _ => rfl
    | list _ => simp [noL] at n
    | _ => exact absurd rfl c
theorem repr_bool {b : Bool} {S : DSt} {R : DV → DSt → Prop} (q : R (dS (PyData.bool b).shown) S) : gReprN [dB b] S R := r_reprNX (r_reprXI (by unfold CanShow; cases b <;> decide) q)
def someL : List PyData := ([PyData.none, PyData.int 0, PyData.bool true, PyData.str (Str.ofString ""), PyData.str (Str.ofString "0"), PyData.tuple [], PyData.list [], PyData.list [PyData.int 0], PyData.dict [], PyData.tuple [PyData.int 0], PyData.tuple [PyData.int 59], PyData.tuple [PyData.int 60], PyData.tuple [PyData.int (-1)], PyData.tuple [PyData.bool true], PyData.tuple [PyData.str (Str.ofString "0")]] ++ [PyData.tuple [PyData.tuple [PyData.int 1, PyData.tuple [PyData.int 0]]], PyData.tuple [PyData.tuple [PyData.int 0, PyData.tuple [PyData.int 1]]]] ++ [PyData.tuple (List.replicate (Int.toNat 60) [PyData.int 0]).flatten, PyData.tuple (List.replicate (Int.toNat 61) [PyData.int 0]).flatten, PyData.tuple (List.replicate (Int.toNat 200) [PyData.int 0]).flatten, PyData.tuple (List.replicate (Int.toNat 60) [PyData.tuple [PyData.int 2, PyData.tuple [PyData.int 0]]]).flatten, PyData.tuple (List.replicate (Int.toNat 60) [PyData.tuple [PyData.int 2, PyData.tuple [PyData.int 0, PyData.int 0]]]).flatten, PyData.tuple (List.replicate (Int.toNat 60) [PyData.tuple [PyData.int 2, PyData.tuple [PyData.int 0, PyData.int 0, PyData.int 0]]]).flatten] ++ [PyData.tuple ((List.replicate (Int.toNat 3) [PyData.tuple [PyData.int 2, PyData.tuple (List.replicate (Int.toNat 60) [PyData.int 0]).flatten]]).flatten ++ (List.replicate (Int.toNat 17) [PyData.int 1]).flatten), PyData.tuple ((List.replicate (Int.toNat 3) [PyData.tuple [PyData.int 2, PyData.tuple (List.replicate (Int.toNat 60) [PyData.int 0]).flatten]]).flatten ++ (List.replicate (Int.toNat 18) [PyData.int 1]).flatten), deepP (8 - 1), deepP (9 - 1)] ++ [PyData.tuple [deepP (7 - 1)], PyData.tuple [PyData.tuple [PyData.int 1, deepP (7 - 1)]], PyData.tuple [PyData.tuple [PyData.int 1, deepP (8 - 1)]], PyData.tuple [PyData.int 3, PyData.tuple [PyData.int 3, PyData.tuple [PyData.int 1, PyData.int 2]]], PyData.tuple [PyData.int 3, PyData.int 3, PyData.tuple [PyData.int 1, PyData.int 2]]])
theorem some_ok : someL.all (fun u => decide (u.depth < 24)) = true ∧ someL.length ≤ 60 := by decide +kernel
theorem filter_no {A : Type} (xs : List A) : xs.filter (fun _ => false) = [] := by simp
theorem ne_nil {S : DSt} {R : DV → DSt → Prop} (q : R (dB false) S) : gNeX (.imm (.list [])) (.imm (.list [])) S R := by
  refine r_ne (fun _ z => nomatch z) (by decide) ?_
  exact q
theorem last_ok : okPr (deepP (8 - 1)) = true ∧ okPr (deepP (9 - 1)) = false ∧ okPr (.tuple [.int 0, .tuple [.int 3, .tuple [.int 1, .int 2]], .int 1]) = true := by decide +kernel
def sp_law : DSp := fun ds μ R => ∃ ns, ds = [.scr ns] ∧ μ = [] ∧ ∀ μ', R (dB true) μ'
theorem go_law : ∀ ds μ R, sp_law ds μ R → t_law P w K sp_is_program sp__law_deep sp__law_due sp__law_changed sp__law_program sp__law_spoon sp__law_shuffled sp__law_bowl (ends R) ⟨ds.map some ++ List.replicate (12 - ds.length) none, μ⟩ := by
  rintro ds μ R ⟨ns0, rfl, rfl, h⟩
  unfold t_law
  simp only [List.map_cons, List.map_nil, List.length_cons, List.length_nil, Nat.reduceAdd, Nat.reduceSub, List.replicate, List.cons_append, List.nil_append]
  walk_at "dy"
  have hb : ∀ L : Int, ∃ mx, (if (if L < 8 then L else 8) > 1 then (if L < 8 then L else 8) else 1) = mx ∧ 1 ≤ mx ∧ mx ≤ 8 := fun L => ⟨_, rfl, by split <;> (try split) <;> omega, by split <;> (try split) <;> omega⟩
  obtain ⟨mx, e, m1, m4⟩ := hb ((List.map (fun n => DV.imm (PyData.int n)) ns0).length : Int)
  rw [e]
  refine r_kR1 (by omega) ?_
  refine ⟨fun i S => ∃ z1 z2 z3 z4 z5 z6 z7 z8 z9 z10 z11 μ, S = ⟨[some (.scr ns0), z1, z2, z3, z4, z5, z6, z7, z8, z9, z10, z11], μ⟩, ⟨_, _, _, _, _, _, _, _, _, _, _, _, rfl⟩, fun _ _ _ _ => True.intro, ?_, ?_⟩
  · rintro i y S2 hy ⟨z1, z2, z3, z4, z5, z6, z7, z8, z9, z10, z11, μ, rfl⟩
    obtain ⟨hi, rfl⟩ := range_get hy
    have sl : ∀ o o' : Option DO, (μ ++ [o]).set μ.length o' = μ ++ [o'] := fun o o' => by simp
    walk_at "dy"
    refine call_bowl_k (by omega) (by omega) fun x0 x1 x2 sh => ?_
    walk_at "dy"
    refine r_kLstRg ⟨by omega, by omega, by omega, by omega, by omega⟩ ?_
    rw [rgD_L]
    walk_at "dy"
    refine call_shuffled (by simp) sh (by omega) (by rw [rgI_len]; omega) fun cs y0 y1 y2 hp sh1 => ?_
    rw [sl]
    walk_at "dy"
    refine call_spoon (by simp) sh1 (by rw [rgI_len]; omega) (by omega) (by omega) fun r1 a0 a1 a2 p0 p1 sh2 => ?_
    rw [sl]
    walk_at "dy"
    refine r_kSl rfl (allImm_map _) ?_
    rw [if_pos rfl, show (1 : Int) + r1 = ((1 + r1.toNat : Nat) : Int) by omega, cut_to, ← List.map_take]
    have hcl : cs.length = 60 := by rw [hp.length_eq, rgI_len]; omega
    have hcars : 1 ≤ (cs.take (1 + r1.toNat)).length ∧ (cs.take (1 + r1.toNat)).length ≤ 60 ∧ ∀ x ∈ cs.take (1 + r1.toNat), 0 ≤ x ∧ x ≤ 59 := by
      refine ⟨by rw [List.length_take]; omega, by rw [List.length_take]; omega, fun x hx => ?_⟩
      have := rgI_mem (hp.mem_iff.mp (List.mem_of_mem_take hx))
      omega
    generalize cs.take (1 + r1.toNat) = cars at hcars ⊢
    walk_at "dy"
    refine r_lstC ?_
    walk_at "dy"
    refine r_lst ?_
    walk_at "dy"
    refine call_spoon (by simp) sh2 (by rw [rgI_len]; omega) (by omega) (by omega) fun r2 b0 b1 b2 p2 p3 sh3 => ?_
    rw [sl]
    obtain ⟨l, hl, l0⟩ := two_at (a := 30) (b := 210) p2 p3
    walk_at "dy"
    refine r_at rfl rfl hl ?_
    walk_at "dy"
    simp only [DSt.new, List.append_assoc, List.cons_append, List.nil_append, List.length_append, List.length_cons, List.length_nil, Nat.zero_add]
    have sl2 : ∀ o o' o2 : Option DO, (μ ++ [o, o2]).set μ.length o' = μ ++ [o', o2] := fun o o' o2 => by simp
    refine r_lst ?_
    walk_at "dy"
    refine call_spoon (by simp) sh3 (by rw [rgI_len]; omega) (by omega) (by omega) fun r3 c0 c1 c2 p4 p5 sh4 => ?_
    rw [sl2]
    obtain ⟨lv, hlv, lv0⟩ := two_at (a := 3) (b := 8) p4 p5
    refine r_at rfl rfl hlv ?_
    walk_at "dy"
    refine r_lst ?_
    walk_at "dy"
    refine call_spoon (by simp) sh4 (by rw [rgI_len]; omega) (by omega) (by omega) fun r4 d0 d1 d2 p6 p7 sh5 => ?_
    rw [sl2]
    obtain ⟨mo, hmo, mo0⟩ := two_at (a := 6) (b := 60) p6 p7
    refine r_at rfl rfl hmo ?_
    walk_at "dy"
    refine r_pow (by unfold PowOk; decide) ?_
    rw [show (10 : Int) ^ (30 : Int).toNat = 1000000000000000000000000000000 from rfl]
    walk_at "dy"
    obtain ⟨lvn, rfl, n1, n2⟩ : ∃ n : Nat, lv = (n : Int) ∧ 1 ≤ n ∧ n ≤ 8 := ⟨lv.toNat, by omega, by omega, by omega⟩
    have hbeq : (μ.length == μ.length + 1) = false := beq_eq_false_iff_ne.mpr (by omega)
    have sl3 : ∀ o o2 o' o2' : Option DO, ((μ ++ [o, o2]).set μ.length o').set (μ.length + 1) o2' = μ ++ [o', o2'] := fun o o2 o' o2' => by simp
    refine r_callC2 (k0 := μ.length) (k1 := μ.length + 1) (o0 := shD d0 d1 d2) (o1 := .lst [dI l]) (es' := [.cell 0, .imm (L cars), dI lvn, dI mo, dI 1000000000000000000000000000000, .cell 1]) (by simp) (by simp) rfl rfl (by omega) (by simp [renDs, renD, L, List.idxOf_cons, hbeq]) ?_
    refine ⟨cars, mo, l, d0, d1, d2, _, lvn, rfl, rfl, hcars, ⟨n1, by omega⟩, ⟨by omega, by omega⟩, ⟨by omega, by omega⟩, sh5, by rw [rgI_len]; omega, fun e0 e1 e2 l' xs μ' op q0 q1 q2 q3 q4 q5 => ?_⟩
    refine r_retC2 (o0 := shD e0 e1 e2) (o1 := .lst [dI l']) rfl rfl q4 q5 ?_
    rw [sl3]
    have hwx : wtD (.tuple xs) ≤ 30000 := by simp only [wtD]; omega
    have hfx := okP_fine lvn _ op
    have sh6 := q3.mono (show _ ≤ (10000 : Int) by rw [rgI_len]; omega)
    clear q3
    walk_at "dy"
    refine r_lst ?_
    walk_at "dy"
    refine r_lc ?_
    walk_at "dy"
    refine r_kR1 (by omega) ?_
    refine ⟨fun i acc μ2 => ∃ y0 y1 y2 : Int, μ2 = μ ++ [some (shD y0 y1 y2), some (.lst [dI l'])] ∧ Sh (10000 + 100 * (i : Int)) y0 y1 y2 ∧ acc.length = i ∧ ∀ u ∈ acc, FineU u 20 ∧ wtD u ≤ 50000, ⟨e0, e1, e2, rfl, by simpa using sh6, rfl, by simp⟩, fun _ _ _ _ _ => True.intro, ?_, by rw [range_len, sizeLine_eq]; decide, ?_⟩
    · rintro i2 y acc μ2 hy2 ⟨y0, y1, y2, rfl, sh7, ac, au⟩
      obtain ⟨hi2, rfl⟩ := range_get hy2
      have hi2 : i2 < 16 := hi2
      walk_at "dy"
      refine r_iteT rfl ?_
      walk_at "dy"
      refine r_callC (k := μ.length) (o := shD y0 y1 y2) (es' := [.cell 0, .imm (.tuple xs)]) (by simp) (by simp [renDs, renD]) (cellsOf_one (by simp) rfl) ?_
      refine ⟨.tuple xs, y0, y1, y2, _, lvn, rfl, rfl, op, by omega, by omega, sh7, by omega, fun f0 f1 f2 us μ' g1 g2 sh8 hm => ?_⟩
      refine r_retC (o := shD f0 f1 f2) rfl hm ?_
      rw [sl2]
      refine ⟨f0, f1, f2, rfl, sh8.mono (by omega), by simp [ac], fun u hu => ?_⟩
      rcases List.mem_append.mp hu with z | z
      · exact au u z
      · rw [List.mem_singleton.mp z]
        exact ⟨⟨g1.1, g1.2.1, by have := g1.2.2; omega⟩, by omega⟩
    · rintro acc μ2 ⟨y0, y1, y2, rfl, _, ac, au⟩
      rw [range_len] at ac
      walk_at "dy"
      refine r_addLI (by simp [sizeLine_eq]; omega) ?_
      have good : ∀ u ∈ [PyData.tuple xs] ++ acc, FineU u 20 ∧ wtD u ≤ 50000 := fun u hu => by
        rcases List.mem_append.mp hu with z | z
        · rw [List.mem_singleton.mp z]
          exact ⟨⟨hfx.1, .inl hfx.2.1, by have := hfx.2.2.2; omega⟩, by omega⟩
        · exact au u z
      generalize [PyData.tuple xs] ++ acc = vals at good ⊢
      generalize μ ++ [some (shD y0 y1 y2), some (.lst [dI l'])] = M
      walk_at "dy"
      refine ⟨fun _ S => ∃ z9 z10 : Option DV, S = ⟨[some (.scr ns0), some (dI (0 + (i : Int))), some (.cell μ.length), some (.imm (L cars)), some (.cell (μ.length + 1)), some (dI lvn), some (dI mo), some (.imm (.tuple xs)), z8, z9, z10, z11], M⟩, ⟨_, _, rfl⟩, fun _ _ _ _ => True.intro, ?_, ?_⟩
      · rintro n y S2 hy3 ⟨z9, z10, rfl⟩
        rw [List.map_map, List.getElem?_map] at hy3
        obtain ⟨u, hu, rfl⟩ := Option.map_eq_some_iff.mp hy3
        obtain ⟨g1, g2⟩ := good u (List.mem_of_getElem? hu)
        change dgName 9 (DY.one (.imm u)) _ _
        walk_at "dy"
        refine repr_fine g1 (by omega) (by omega) ?_
        walk_at "dy"
        refine r_callI rfl ⟨u, rfl, rfl, fun μ' => ?_⟩
        walk_at "dy"
        refine repr_bool ?_
        walk_at "dy"
        refine r_callI rfl ⟨u, rfl, rfl, by have := g1.2.2; omega, fun μ' => ?_⟩
        walk_at "dy"
        refine repr_bool ?_
        walk_at "dy"
        refine r_iteF (by rw [Bool.not_eq_false']; exact decide_eq_true rfl) ?_
        walk_at "dy"
        refine repr_fine g1 (by omega) (by omega) ?_
        walk_at "dy"
        refine r_iteF (by simp) ?_
        walk_at "dy"
        exact ⟨_, _, rfl⟩
      · rintro S2 ⟨_, _, rfl⟩
        exact ⟨_, _, _, _, _, _, _, _, _, _, _, _, rfl⟩
  · rintro S2 ⟨z1, z2, z3, z4, z5, z6, z7, z8, z9, z10, z11, μ, rfl⟩
    walk_at "dy"
    repeat (first
      | (refine r_lst ?_
         walk_at "dy")
      | (refine r_newDI ?_
         walk_at "dy")
      | (refine r_addLI (by simp [sizeLine_eq]) ?_
         walk_at "dy")
      | (refine r_mulT (by simp) (by simp) ?_
         walk_at "dy")
      | (refine r_addT (by simp [sizeLine_eq]) ?_
         walk_at "dy")
      | (refine r_callI rfl ⟨7, rfl, rfl, by decide, by decide, fun _ => ?_⟩
         walk_at "dy")
      | (refine r_callI rfl ⟨8, rfl, rfl, by decide, by decide, fun _ => ?_⟩
         walk_at "dy")
      | (refine r_callI rfl ⟨9, rfl, rfl, by decide, by decide, fun _ => ?_⟩
         walk_at "dy"))
    change dLcX _ _ _ _ _ ⟨[some (.scr ns0), z1, z2, z3, z4, z5, z6, z7, z8, z9, z10, some (.imm (.list someL))], μ⟩ _
    refine r_lc ?_
    walk_at "dy"
    refine lc_run (fun _ => True.intro) (by rw [List.length_map, List.length_map, sizeLine_eq]; have := some_ok.2; omega) (fun _ => false) (fun _ => .none) ?_ ?_
    · intro y hy N hN
      rw [List.map_map] at hy
      obtain ⟨u, hu, rfl⟩ := List.mem_map.mp hy
      have hd := of_decide_eq_true (List.all_eq_true.mp some_ok.1 u hu)
      change dgName 9 (DY.one (.imm u)) _ _
      walk_at "dy"
      refine r_callI rfl ⟨u, rfl, rfl, fun μ' => ?_⟩
      walk_at "dy"
      refine repr_bool ?_
      walk_at "dy"
      refine r_callI rfl ⟨u, rfl, rfl, hd, fun μ' => ?_⟩
      walk_at "dy"
      refine repr_bool ?_
      walk_at "dy"
      refine r_iteF (by rw [Bool.not_eq_false']; exact decide_eq_true rfl) ?_
      exact hN
    rw [filter_no, List.map_nil]
    walk_at "dy"
    refine r_lst ?_
    walk_at "dy"
    refine ne_nil ?_
    walk_at "dy"
    refine r_iteF rfl ?_
    walk_at "dy"
    refine r_lst ?_
    walk_at "dy"
    refine r_callI rfl ⟨8, rfl, rfl, by decide, by decide, fun _ => ?_⟩
    walk_at "dy"
    refine r_callI rfl ⟨_, rfl, rfl, fun _ => ?_⟩
    rw [last_ok.1]
    walk_at "dy"
    refine r_callI rfl ⟨9, rfl, rfl, by decide, by decide, fun _ => ?_⟩
    walk_at "dy"
    refine r_callI rfl ⟨_, rfl, rfl, fun _ => ?_⟩
    rw [last_ok.2.1]
    walk_at "dy"
    refine r_callI rfl ⟨_, rfl, rfl, fun _ => ?_⟩
    rw [last_ok.2.2]
    walk_at "dy"
    refine r_lst ?_
    walk_at "dy"
    refine r_eq (fun _ z => nomatch z) (by decide) ?_
    rw [show PyData.eqv (.list [.bool true, .bool false, .bool true]) (.list [.bool true, .bool false, .bool true]) = true by simp [PyData.eqv, PyData.eqvAll]]
    walk_at "dy"
    exact h _

end
end K35

set_option Elab.async false
set_option linter.all false
set_option maxRecDepth 100000
namespace K35
open PySem PySem.Spec L2 DL PyProof.Rows
/-! ## the defs, one behind the other -/
theorem all_ok {P : Program} {w : World} {K : PySem.W.Frag} {mg : Str → Option Value} {base : Heap} (G : Top K mg) : DFn P w K mg base 17 G.f_law G.fd_law ["script"] sp_law := by
  have h1 : DFn P w K mg base _ _ _ _ sp_is_int := ok_is_int G (fun _ _ _ ⟨_, e, _⟩ => by rw [e]; rfl) go_is_int
  have h2 : DFn P w K mg base _ _ _ _ sp_in_range := ok_in_range G h1 (fun _ _ _ ⟨_, _, _, e, _⟩ => by rw [e]; rfl) go_in_range
  have h3 : DFn P w K mg base _ _ _ _ sp_is_car := ok_is_car G h2 (fun _ _ _ ⟨_, e, _⟩ => by rw [e]; rfl) go_is_car
  have hN4 : ∀ d, DFn P w K mg base (3 + d) G.f_steps_in G.fd_steps_in ["value", "depth"] (spN_steps_in d) := fun d => by
    induction d with
    | zero => exact dfn_none no_steps_in
    | succ d ih => exact ok_steps_in G (Nat.le_add_right _ _) h3 ih h2 (fun _ _ _ ⟨_, _, e, _⟩ => by rw [e]; rfl) (goN_steps_in d)
  have h4 : DFn P w K mg base _ _ _ _ sp_steps_in := hN4 12
  have h5 : DFn P w K mg base _ _ _ _ sp_is_program := ok_is_program G h4 (fun _ _ _ ⟨_, e, _⟩ => by rw [e]; rfl) go_is_program
  have h6 : DFn P w K mg base _ _ _ _ sp__law_deep := ok__law_deep G (fun _ _ _ ⟨_, e, _⟩ => by rw [e]; rfl) go__law_deep
  have hN7 : ∀ d, DFn P w K mg base (0 + d) G.f__law_steps G.fd__law_steps ["program_here"] (spN__law_steps d) := fun d => by
    induction d with
    | zero => exact dfn_none no__law_steps
    | succ d ih => exact ok__law_steps G (Nat.le_add_right _ _) ih (fun _ _ _ ⟨_, e, _⟩ => by rw [e]; rfl) (goN__law_steps d)
  have h7 : DFn P w K mg base _ _ _ _ sp__law_steps := hN7 12
  have hN8 : ∀ d, DFn P w K mg base (0 + d) G.f__law_depth G.fd__law_depth ["program_here"] (spN__law_depth d) := fun d => by
    induction d with
    | zero => exact dfn_none no__law_depth
    | succ d ih => exact ok__law_depth G (Nat.le_add_right _ _) ih (fun _ _ _ ⟨_, e, _⟩ => by rw [e]; rfl) (goN__law_depth d)
  have h8 : DFn P w K mg base _ _ _ _ sp__law_depth := hN8 12
  have hN9 : ∀ d, DFn P w K mg base (0 + d) G.f__law_is_form G.fd__law_is_form ["value"] (spN__law_is_form d) := fun d => by
    induction d with
    | zero => exact dfn_none no__law_is_form
    | succ d ih => exact ok__law_is_form G (Nat.le_add_right _ _) ih (fun _ _ _ ⟨_, e, _⟩ => by rw [e]; rfl) (goN__law_is_form d)
  have h9 : DFn P w K mg base _ _ _ _ sp__law_is_form := hN9 12
  have h10 : DFn P w K mg base _ _ _ _ sp__law_due := ok__law_due G h7 h8 h9 (fun _ _ _ ⟨_, e, _⟩ => by rw [e]; rfl) go__law_due
  have h11 : DFn P w K mg base _ _ _ _ sp__law_spoon := ok__law_spoon G (fun _ _ _ ⟨_, _, _, _, _, e, _⟩ => by rw [e]; rfl) go__law_spoon
  have hN12 : ∀ d, DFn P w K mg base (1 + d) G.f__law_changed G.fd__law_changed ["bowl", "program_here"] (spN__law_changed d) := fun d => by
    induction d with
    | zero => exact dfn_none no__law_changed
    | succ d ih => exact ok__law_changed G (Nat.le_add_right _ _) h11 ih (fun _ _ _ ⟨_, _, _, _, _, _, e, _⟩ => by rw [e]; rfl) (goN__law_changed d)
  have h12 : DFn P w K mg base _ _ _ _ sp__law_changed := hN12 12
  have hN13 : ∀ d, DFn P w K mg base (1 + d) G.f__law_program G.fd__law_program ["bowl", "cars", "levels", "most", "wide", "left"] (spN__law_program d) := fun d => by
    induction d with
    | zero => exact dfn_none no__law_program
    | succ d ih => exact ok__law_program G (Nat.le_add_right _ _) h11 ih (fun _ _ _ ⟨_, _, _, _, _, _, _, _, e, _⟩ => by rw [e]; rfl) (goN__law_program d)
  have h13 : DFn P w K mg base _ _ _ _ sp__law_program := hN13 12
  have h14 : DFn P w K mg base _ _ _ _ sp__law_shuffled := ok__law_shuffled G h11 (fun _ _ _ ⟨_, _, _, _, _, e, _⟩ => by rw [e]; rfl) go__law_shuffled
  have h15 : DFn P w K mg base _ _ _ _ sp__law_bowl := ok__law_bowl G (fun _ _ _ ⟨_, _, e, _⟩ => by rw [e]; rfl) go__law_bowl
  exact ok_law G h5 h6 h10 h12 h13 h11 h14 h15 (fun _ _ _ ⟨_, e, _⟩ => by rw [e]; rfl) go_law
theorem sp_meets (w : World) (ns : List Int) (_ : ns.length ≤ 63) (_ : ∀ z ∈ ns, Builtin.Int.intBits z ≤ 1048576) : sp_law [.scr ns] [] fun d _ => d = dB true := ⟨ns, rfl, rfl, fun _ => rfl⟩
end K35
open PySem PySem.W PyProof.Rows
set_option maxHeartbeats 0 in
theorem PySem.Challenge.cw_deadlane_k35_programs_judged_holds : PySem.Challenge.rw_deadlane_k35_programs_judged.Holds := by
  w_on; o_law; k_head; (case hw => w_witness2)
  k_fill
  refine DL.walk_ofD (l := PySem.Challenge.rw_deadlane_k35_programs_judged) (n := 63) (k := 17) (x := "script") (dsp := fun _ => K35.sp_law) rfl (by decide) rfl ⟨rfl, by decide, by decide⟩ (fun w h Y => PySem.W.kIn_of Y) ?F K35.sp_meets
  case F =>
    intro w mg fa h KX G hmg
    refine' K35.end_mk KX G hmg (fun base T => K35.all_ok T) ?a_is_int ?l_is_int ?c_is_int ?k_is_int ?a_in_range ?l_in_range ?c_in_range ?k_in_range ?a_is_car ?l_is_car ?c_is_car ?k_is_car ?a_steps_in ?l_steps_in ?c_steps_in ?k_steps_in ?a_is_program ?l_is_program ?c_is_program ?k_is_program ?a__law_deep ?l__law_deep ?c__law_deep ?k__law_deep ?a__law_steps ?l__law_steps ?c__law_steps ?k__law_steps ?a__law_depth ?l__law_depth ?c__law_depth ?k__law_depth ?a__law_is_form ?l__law_is_form ?c__law_is_form ?k__law_is_form ?a__law_due ?l__law_due ?c__law_due ?k__law_due ?a__law_spoon ?l__law_spoon ?c__law_spoon ?k__law_spoon ?a__law_changed ?l__law_changed ?c__law_changed ?k__law_changed ?a__law_program ?l__law_program ?c__law_program ?k__law_program ?a__law_shuffled ?l__law_shuffled ?c__law_shuffled ?k__law_shuffled ?a__law_bowl ?l__law_bowl ?c__law_bowl ?k__law_bowl ?a_law ?l_law ?c_law ?k_law ?z_bool ?z_int ?z_isinstance ?z_len ?z_list ?z_max ?z_min ?z_range ?z_repr ?z_sum ?z_tuple ?v_CARS ?v_MOST_DEPTH ?v_MOST_STEPS ?v_MOST_STEPS_IN_ALL ?v_MOST_TIMES
    (case a_is_int => k_is); (case l_is_int => k_is); (case c_is_int => k_is); (case k_is_int => k_is); (case a_in_range => k_is); (case l_in_range => k_is); (case c_in_range => k_is); (case k_in_range => k_is); (case a_is_car => k_is); (case l_is_car => k_is); (case c_is_car => k_is); (case k_is_car => k_is); (case a_steps_in => k_is); (case l_steps_in => k_is); (case c_steps_in => k_is); (case k_steps_in => k_is); (case a_is_program => k_is); (case l_is_program => k_is); (case c_is_program => k_is); (case k_is_program => k_is); (case a__law_deep => k_is); (case l__law_deep => k_is); (case c__law_deep => k_is); (case k__law_deep => k_is); (case a__law_steps => k_is); (case l__law_steps => k_is); (case c__law_steps => k_is); (case k__law_steps => k_is); (case a__law_depth => k_is); (case l__law_depth => k_is); (case c__law_depth => k_is); (case k__law_depth => k_is); (case a__law_is_form => k_is); (case l__law_is_form => k_is); (case c__law_is_form => k_is); (case k__law_is_form => k_is); (case a__law_due => k_is); (case l__law_due => k_is); (case c__law_due => k_is); (case k__law_due => k_is); (case a__law_spoon => k_is); (case l__law_spoon => k_is); (case c__law_spoon => k_is); (case k__law_spoon => k_is); (case a__law_changed => k_is); (case l__law_changed => k_is); (case c__law_changed => k_is); (case k__law_changed => k_is); (case a__law_program => k_is); (case l__law_program => k_is); (case c__law_program => k_is); (case k__law_program => k_is); (case a__law_shuffled => k_is); (case l__law_shuffled => k_is); (case c__law_shuffled => k_is); (case k__law_shuffled => k_is); (case a__law_bowl => k_is); (case l__law_bowl => k_is); (case c__law_bowl => k_is); (case k__law_bowl => k_is); (case a_law => k_is); (case l_law => k_is); (case c_law => k_is); (case k_law => k_is); (case z_bool => k_is); (case z_int => k_is); (case z_isinstance => k_is); (case z_len => k_is); (case z_list => k_is); (case z_max => k_is); (case z_min => k_is); (case z_range => k_is); (case z_repr => k_is); (case z_sum => k_is); (case z_tuple => k_is); (case v_CARS => k_is); (case v_MOST_DEPTH => k_is); (case v_MOST_STEPS => k_is); (case v_MOST_STEPS_IN_ALL => k_is); (case v_MOST_TIMES => k_is)


