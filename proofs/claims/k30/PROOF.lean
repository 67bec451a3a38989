import PyProof.Rows.All
import Wide.All
import OpenK.AllK
import Wide.FinOn
import HandS.ForMost
import HandS.Wide
import HandS.TupAny
import HandS.Conv
import HandS.ReCall
import HandS.Lambda
import KE.KIndexOf
import KE.KDictKeyed
import KE.KeyNested
import HandS.Style
import HandS.ForExc
import HandS.EndBits
import HandS.RaiseMore
import HandS.Deep
import HandS.IsInst
import HandS.SortInts
import HandS.Zip
import HandS.Exc
import HandS.ExcOwn
import HandS.ExcInit
import HandS.ExcIs
import HandS.ExcField
import KE.KExcIs
import HandS.TupSets
import KE.DataFind
import HandS.Dict
import HandS.DictComp
import KE.KDictWalk
import KE.SortData
import KE.DataMinMax
import HandS.DictTup
import HandS.DictSubView
import KE.KDictPairs
import HandS.SetFor
import HandS.Strs
import HandS.Flt
import PyProof.MaxThree
import HandS.EndOwn
import PyProof.StrOps2
import HandS.TupMul
import KE.KIntText
import KE.IntTextLaws
import PySem.Challenge.RW_evenfailover_k30_successors_of_one_list
set_option Elab.async false
set_option linter.all false
set_option maxRecDepth 100000
set_option maxHeartbeats 4000000
/-! DL0: tuples whose objects are known to have no names of their own (so that their methods may be asked) -/
namespace DL
open PySem PySem.Spec PyProof.Rows L2
/-- what is kept of an object: of a table of code objects only that it is there -/
def Kp (H : Hp) (a : Addr) : HO → Prop
  | .tbl _ => H a ≠ none
  | o => H a = some o
theorem Kp.of {H : Hp} {a : Addr} {o : HO} (h : H a = some o) : Kp H a o := by
  cases o <;> first | exact h | (show H a ≠ none; rw [h]; simp)
theorem Kp.ne {H : Hp} {a : Addr} {o : HO} (h : Kp H a o) : H a ≠ none := by
  cases o <;> first | exact h | (have h : H a = _ := h; rw [h]; simp)
theorem Kp.get {H : Hp} {a : Addr} {o : HO} (h : Kp H a o) : ∃ u, H a = some u := by
  cases e : H a with
  | none => exact absurd e h.ne
  | some u => exact ⟨u, rfl⟩
theorem Kp.trans {H H' : Hp} {a : Addr} {o : HO} (h : Kp H a o) (k : ∀ u, H a = some u → Kp H' a u) : Kp H' a o := by
  cases o <;> first | exact k _ h | exact (let ⟨u, e⟩ := h.get; (k u e).ne)
/-- the tuple at a, its object without names -/
def TrT (H : Hp) (a : Addr) (xs : List V) : Prop := ∃ o, H a = some (.frz o (.tup xs)) ∧ o.dict = none
theorem TrT.sq {K : PySem.W.Frag} {H : Hp} {a : Addr} {xs : List V} (h : TrT H a xs) : SqT K H a xs := .inl (.inr (let ⟨o, e, _⟩ := h; ⟨o, e⟩))
theorem TrT.keep {H H' : Hp} {a : Addr} {xs : List V} (h : TrT H a xs) (k : ∀ o, H a = some o → Kp H' a o) : TrT H' a xs := let ⟨o, e, d⟩ := h; ⟨o, k _ e, d⟩
theorem TrT.there {H : Hp} {a : Addr} {xs : List V} (h : TrT H a xs) : H a ≠ none := let ⟨_, e, _⟩ := h; by rw [e]; simp
/-- a new one -/
def NewT (H : Hp) (xs : List V) (Q : VK) : Prop := ∀ p o, H p = none → o.dict = none → Q (.ref p) (upd H p (.frz o (.tup xs)))
theorem trt_new {H : Hp} {p : Addr} {o : Obj} {xs : List V} (d : o.dict = none) : TrT (upd H p (.frz o (.tup xs))) p xs := ⟨o, upd_same, d⟩
def tupO (us : Array Value) : Obj := { cls := .type "tuple", data := .seq us }
section
variable {X : Cx} {pins : List (Addr × Obj)} {σ : L2.St} {H : Hp} {s : Shared} {Q : VK}
/-- it is laid -/
theorem lay_T {xs : List V} {us : List Value} {h' : Heap} {tk : Nat} (I : Inv X pins σ H s) (k : ∀ b u, s.heap.get? b = some u → h'.get? b = some u) (hz : xs.length ≤ sizeLine) (r : Vals xs us) (q : NewT H xs Q) :
    ∃ x H', Inv X pins σ H' { s with heap := h'.push (tupO us.toArray), toks := tk } ∧ RelV x (.ref h'.objs.size) ∧ Q x H' := by
  have I1 : Inv X pins σ H { s with heap := h' } := I.kept (t' := s.toks) k
  have e : (h'.push (tupO us.toArray)).get? h'.objs.size = some (tupO us.toArray) := Heap.get?_push_size _ rfl
  have n : H h'.objs.size = none := I1.hok.fresh (Nat.le_refl _)
  have I2 := I1.laid (a := h'.objs.size) (o := .frz (tupO us.toArray) (.tup xs)) (h' := h'.push (tupO us.toArray)) (t' := tk) (fun b u eb => Heap.get?_push_of_some _ eb) (Nat.le_refl _)
    ⟨e, hz, us, r, ⟨_, e, rfl, _, rfl⟩⟩
  exact ⟨.ref h'.objs.size, _, I2, rfl, q _ _ n rfl⟩
/-- (a, b, ..) -/
def tTupT (t : TA) : TE := fun σ H Q => t σ H fun ys H1 => ys.length ≤ sizeLine ∧ NewT H1 ys Q
theorem pe_tupT {es : List Expr} {t : TA} {x1 pos} (h : PA X es t) : PE X (.Tuple es x1 pos) (tTupT t) := ⟨fun pins s σ H Q I w => by
  refine wpAny_Tuple_spliced ?_
  refine thn (h.run pos pins s σ H _ I w) fun us s1 ⟨ys, H1, I1, r, z, q⟩ => ?_
  exact ⟨(by rw [← r.length]; exact z), lay_T (tk := s1.toks) I1 (fun _ _ e => e) z r q⟩⟩
/-- tuple(l) -/
def rTupT (K : PySem.W.Frag) : List V → Hp → VK → Prop := fun xs H Q => ∃ p ys, xs = [.ref p] ∧ ((SqL K H p ys ∧ NewT H ys Q) ∨ (SqT K H p ys ∧ Q (.ref p) H))
theorem call_tupleT' : CallR X (.type "tuple") (rTupT X.K) := fun pins s σ H xs us Q I r h => by
  obtain ⟨p, ys, rfl, h⟩ := h
  obtain ⟨u, rfl, rx⟩ := vals1 r
  obtain rfl : u = Value.ref p := rx
  cases h with
  | inl h =>
    obtain ⟨its, r', pl, hz⟩ := I.list h.1
    have hn := r'.length
    exact call_tuple_list pl.isList (fun h' kp => lay_T (tk := s.toks) I kp hz r' h.2) (by rw [List.size_toArray]; omega)
  | inr h =>
    obtain ⟨its, _, pl, _⟩ := I.tuple h.1
    exact call_tuple_same pl ⟨.ref p, H, I, rfl, h.2⟩
/-- tuple(range(..)) -/
def tTupRgT (te : L2.St → Hp → (Int → Int → Hp → Prop) → Prop) : TE := fun σ H Q => te σ H fun a b H1 => RgOk a b ∧ NewT H1 (rgV a b) Q
theorem pe_tupRgT {e : Expr} {te : L2.St → Hp → (Int → Int → Hp → Prop) → Prop} {p pos : Pos} (hc : X.calm = true) (hg : Gl X "tuple") (hm : X.mg "tuple" = none) (he : PRg X e te) (na : starEach [e] X.env = (false, eval e X.env) :: starEach [] X.env := by rfl) :
    PE X (.Call (.Name "tuple" p) [e] [] pos) (tTupRgT te) := ⟨fun pins s σ H Q I w => by
  refine Call_ (ld_blt I hg hm boot_tuple ?_)
  refine PyProof.Rows.callWith_type1 ?_ na
  refine args_cons (thn (he pins s σ H _ I w) fun x s1 ⟨r, a, b, t, u, v, H1, ex, hr, I1, ok, q⟩ => args_nil ?_) na
  subst ex
  obtain ⟨c1, c2, c3, c4, c5⟩ := ok
  refine call_tuple_range (n := (b - a).toNat) (I1.ok.hd hc) hr (small_one c1 c2 c3 c4) (rangeSize_nat a b) c5 fun h' tk acc kp hi => ?_
  exact lay_T (us := acc.toList) (tk := tk) I1 kp (by rw [rgV_length, sizeLine_eq]; omega) (vals_rg hi) q⟩
/-- t + u -/
def rCatN (K : PySem.W.Frag) : R2 := fun x y H Q => ∃ a b xs ys, x = .ref a ∧ y = .ref b ∧ SqT K H a xs ∧ SqT K H b ys ∧ xs.length + ys.length ≤ sizeLine ∧
  (xs = [] → Q (.ref b) H) ∧ (xs ≠ [] → ys = [] → Q (.ref a) H) ∧ (xs ≠ [] → ys ≠ [] → NewT H (xs ++ ys) Q)
theorem op_catN : OpR X (binaryOp .Add) (rCatN X.K) := fun pins s σ H x y v u Q I rx ry h => by
  obtain ⟨a, b, xs, ys, rfl, rfl, ha, hb, hz, q0, q1, q2⟩ := h
  obtain rfl : v = Value.ref a := rx
  obtain rfl : u = Value.ref b := ry
  obtain ⟨i1, r1, p1, _⟩ := I.tuple ha
  obtain ⟨i2, r2, p2, _⟩ := I.tuple hb
  by_cases hx : xs = []
  · subst hx
    cases r1
    exact cat_tup0 p1 p2 ⟨.ref b, H, I, rfl, q0 rfl⟩
  · have n1 : i1 ≠ [] := fun z => hx (r1.nil_iff.mp z)
    refine HT.cat_tup p1 p2 n1 (fun z => ⟨.ref a, H, I, rfl, q1 hx (r2.nil_iff.mp z)⟩) (fun z => ?_) (by rw [← r1.length, ← r2.length]; exact hz)
    exact lay_T (tk := s.toks) I (fun _ _ e => e) (by rw [List.length_append]; exact hz) (r1.append r2) (q2 hx fun w => z (r2.nil_iff.mpr w))
/-- t[lo:hi] -/
def rSlN (K : PySem.W.Frag) : V → Option Int → Option Int → Hp → VK → Prop := fun x lo hi H Q => ∃ a xs, x = .ref a ∧ SqT K H a xs ∧
  (HT.sIx xs.length 0 lo = 0 ∧ HT.sIx xs.length xs.length hi = xs.length → Q (.ref a) H) ∧ (¬ (HT.sIx xs.length 0 lo = 0 ∧ HT.sIx xs.length xs.length hi = xs.length) → NewT H (cutV xs lo hi) Q)
theorem sl_tupN : SlR X (rSlN X.K) := fun pins s σ H x v vl vu lo hi sl Q I rx hs pl pu h => by
  obtain ⟨a, xs, rfl, hx, q1, q2⟩ := h
  obtain rfl : v = Value.ref a := rx
  obtain ⟨its, r, ht, hz⟩ := I.tuple hx
  have hlen : its.toArray.size = xs.length := by rw [List.size_toArray]; exact r.length.symm
  refine ⟨"tuple", _, PyProof.Rows.slot_tuple_getitem.lookup, ht.typeIs, ?_⟩
  by_cases hw : HT.sIx xs.length 0 lo = 0 ∧ HT.sIx xs.length xs.length hi = xs.length
  · exact getItem_tuple_whole ht hs pl pu (by rw [hlen]; exact hw) ⟨.ref a, H, I, rfl, q1 hw⟩
  · refine HT.getItem_tuple_cut ht hs pl pu (by rw [hlen]; exact hw) ?_ (by rw [hlen]; exact hz)
    rw [hlen]
    exact lay_T (tk := s.toks) I (fun _ _ e => e) (Nat.le_trans (cutV_length xs lo hi) hz) ((r.drop (HT.sIx xs.length 0 lo)).take (HT.sIx xs.length xs.length hi - HT.sIx xs.length 0 lo)) (q2 hw)
/-- t.index(i), whole numbers -/
def tyT (H : Hp) (x : V) : Prop := ∃ a xs, x = .ref a ∧ TrT H a xs
def rIxT (K : PySem.W.Frag) : V → List V → Hp → VK → Prop := fun x xs H Q => ∃ (a : Addr) (ns : List Int) (i : Int), x = .ref a ∧ xs = [.int i] ∧ TrT H a (ns.map V.int) ∧ i ∈ ns ∧ Q (.int (ns.idxOf i : Nat)) H
theorem mt_ixT : MtR X "tuple.index" (rIxT X.K) := fun pins s σ H x xs v us Q I rx rs h => by
  obtain ⟨a, ns, i, rfl, rfl, ht, hi, q⟩ := h
  obtain rfl : v = Value.ref a := rx
  obtain ⟨u, rfl, t, rfl⟩ := vals1 rs
  obtain ⟨its, r, pl, hz⟩ := I.tuple (ht.sq (K := X.K))
  exact SeqAt.tuple_index_ints pl r.ints hi ⟨.int _, H, I.tok _, ⟨_, rfl⟩, q⟩
end
/-! ### dicts, by their very object -/
/-- the very object o at a (it may be written) -/
def XO (o : Obj) (a : Addr) : HO := .ext fun h => h.get? a = some o ∧ sysModules < a
theorem xo_ok {P : Program} {w : World} {H : Hp} {h : Heap} {a : Addr} {o : Obj} (e : h.get? a = some o) (b : sysModules < a) : ObjOk P w H h a (XO o a) := ⟨⟨e, b⟩, ⟨o, e⟩, fun _ _ z k => ⟨k _ z.1, z.2⟩⟩
theorem xo_at {P : Program} {w : World} {H : Hp} {h : Heap} {a : Addr} {o : Obj} (hok : HOk P w H h) (e : H a = some (XO o a)) : h.get? a = some o := (show ObjOk P w H h a (.ext fun h => h.get? a = some o ∧ sysModules < a) from hok a _ e).1.1
theorem xo_gt {P : Program} {w : World} {H : Hp} {h : Heap} {a : Addr} {o : Obj} (hok : HOk P w H h) (e : H a = some (XO o a)) : sysModules < a := (show ObjOk P w H h a (.ext fun h => h.get? a = some o ∧ sysModules < a) from hok a _ e).1.2
/-! keys without texts: their hash is nobody's choice -/
mutual
def nkH : NestedKey → Int
  | .none => reduceHash 0xFCA86420
  | .num i => hashInt i
  | .text _ => 0
  | .tup ks => reduceHash (Builtin.Tuple.tupleHashOf (nkHs ks))
def nkHs : List NestedKey → List Int
  | [] => []
  | k :: ks => nkH k :: nkHs ks
end
mutual
def nkF : NestedKey → Bool
  | .none => true
  | .num _ => true
  | .text _ => false
  | .tup ks => nkFs ks
def nkFs : List NestedKey → Bool
  | [] => true
  | k :: ks => nkF k && nkFs ks
end
mutual
theorem nkH_eq (w : World) : ∀ k : NestedKey, nkF k = true → k.hash w = nkH k
  | .none, _ => rfl
  | .num _, _ => rfl
  | .text _, h => by cases h
  | .tup ks, h => by
    show reduceHash (Builtin.Tuple.tupleHashOf (NestedKey.hashes w ks)) = reduceHash (Builtin.Tuple.tupleHashOf (nkHs ks))
    rw [nkHs_eq w ks h]
theorem nkHs_eq (w : World) : ∀ ks : List NestedKey, nkFs ks = true → NestedKey.hashes w ks = nkHs ks
  | [], _ => rfl
  | k :: ks, h => by
    have h' : (nkF k && nkFs ks) = true := h
    rw [Bool.and_eq_true] at h'
    show NestedKey.hash w k :: NestedKey.hashes w ks = nkH k :: nkHs ks
    rw [nkH_eq w k h'.1, nkHs_eq w ks h'.2]
end
/-! a datum as a key -/
mutual
def nkD : PyData → Option NestedKey
  | .none => some .none
  | .bool b => some (.num (if b = true then 1 else 0))
  | .int i => some (.num i)
  | .tuple ds => (nkDs ds).map .tup
  | .str _ => none
  | .list _ => none
  | .dict _ => none
def nkDs : List PyData → Option (List NestedKey)
  | [] => some []
  | d :: ds => match nkD d, nkDs ds with
    | some k, some ks => some (k :: ks)
    | _, _ => none
end
/-- the object of a dict whose keys and values are ks and vs; kd: the keys as data -/
def DObj (o : Obj) (ks vs : List V) (kd : List PyData) : Prop := ∃ es ep, o.ExactDict ∧ o.data = .dict es ep ∧ es.size ≤ sizeLine ∧ Vals ks (es.toList.map (·.key)) ∧ Vals vs (es.toList.map (·.val)) ∧
  (∀ (i : Nat) (e : DictEntry) (d : PyData) (k : NestedKey), es.toList[i]? = some e → kd[i]? = some d → nkD d = some k → e.hash = nkH k) ∧ (kd.filterMap nkD).Nodup
theorem dobj_nil : DObj { cls := .type "dict", data := .dict #[] } [] [] [] := ⟨#[], _, ⟨rfl, rfl, rfl⟩, rfl, Nat.zero_le _, .nil, .nil, fun i e d k h => by simp at h, .nil⟩
/-- no table of code objects, no code object -/
def NTC (o : HO) : Prop := (∀ ps, o ≠ .tbl ps) ∧ ∀ c q, o ≠ LamX.CodeO c q
theorem ntc_lst {xs : List V} : NTC (.lst xs) := ⟨nofun, fun _ _ => by unfold LamX.CodeO; nofun⟩
theorem heap_at (a : Addr) (o : Obj) (n : o.data ≠ .freed) : ∃ h : Heap, h.get? a = some o ∧ ∀ b u, h.get? b = some u → u = o := by
  have key : ∀ b, (⟨Array.replicate (a + 1) o, {}⟩ : Heap).get? b = if b < a + 1 then some o else none := fun b => by
    show (match (Array.replicate (a + 1) o)[b]? with
      | some ⟨_, _, .freed, _⟩ => none
      | o => o) = _
    by_cases h : b < a + 1
    · have e : (Array.replicate (a + 1) o)[b]? = some o := by rw [Array.getElem?_replicate, if_pos h]
      rw [e, if_pos h]
      split
      · rename_i h; cases h; exact absurd rfl n
      · rfl
    · have e : (Array.replicate (a + 1) o)[b]? = none := by rw [Array.getElem?_replicate, if_neg h]
      rw [e, if_neg h]
  refine ⟨_, by rw [key, if_pos (Nat.lt_succ_self a)], fun b u e => ?_⟩
  rw [key] at e
  split at e
  · cases e; rfl
  · cases e
theorem ntc_xo {o : Obj} {a : Addr} (hd : ∀ vs, o.data ≠ .fields vs) : NTC (XO o a) := ⟨by unfold XO; nofun, fun c q e => by
  unfold XO LamX.CodeO at e
  injection e with e
  obtain ⟨h, hh, hu⟩ := heap_at c { cls := .none, data := .fields #[.none, .str q 0] } (by simp)
  have r : ∃ (oc : Obj) (vs : Array Value) (t : Tok), h.get? c = some oc ∧ oc.data = .fields vs ∧ vs[1]? = some (.str q t) := ⟨_, _, 0, hh, rfl, rfl⟩
  have ef := congrFun e h
  rw [← ef] at r
  have := hu _ _ r.1
  exact hd _ (by rw [this])⟩
theorem tabs_upd {T : List (Addr × Str)} {H : Hp} {a : Addr} {o u : HO} (t : LamX.Tabs T H) (e : H a = some o) (n : NTC o) : LamX.Tabs T (upd H a u) := fun p hp => by
  obtain ⟨ps, h1, h2, h3⟩ := t p hp
  refine ⟨ps, ?_, h2, fun pos cv hc => ?_⟩
  · rw [upd_ne]
    · exact h1
    · intro z; rw [z, e] at h1; cases h1; exact n.1 _ rfl
  · obtain ⟨c, e1, e2⟩ := h3 pos cv hc
    refine ⟨c, e1, ?_⟩
    rw [upd_ne]
    · exact e2
    · intro z; rw [z, e] at e2; exact n.2 _ p.2 (Option.some.inj e2)
/-- an exception object of the class cls, its dict d, at a: caught and kept -/
def EO (cls : Value) (d : Option Addr) (a : Addr) : HO := .ext fun h => ∃ (oe : Obj) (vs : Array Value), h.get? a = some oe ∧ oe.cls = cls ∧ oe.dict = d ∧ oe.data = .fields vs
theorem eo_ok {P : Program} {w : World} {H : Hp} {h : Heap} {a : Addr} {cls : Value} {d : Option Addr} {oe : Obj} {vs : Array Value} (e : h.get? a = some oe) (z1 : oe.cls = cls) (z2 : oe.dict = d) (z3 : oe.data = .fields vs) : ObjOk P w H h a (EO cls d a) :=
  ⟨⟨oe, vs, e, z1, z2, z3⟩, ⟨oe, e⟩, fun _ _ ⟨o, v, q, r⟩ k => ⟨o, v, k o q, r⟩⟩
theorem eo_at {P : Program} {w : World} {H : Hp} {h : Heap} {a : Addr} {cls : Value} {d : Option Addr} (hok : HOk P w H h) (e : H a = some (EO cls d a)) : ∃ (oe : Obj) (vs : Array Value), h.get? a = some oe ∧ oe.cls = cls ∧ oe.dict = d ∧ oe.data = .fields vs :=
  (show ObjOk P w H h a (.ext fun h => ∃ (oe : Obj) (vs : Array Value), h.get? a = some oe ∧ oe.cls = cls ∧ oe.dict = d ∧ oe.data = .fields vs) from hok a _ e).1
end DL

/-! DL: defs read as functions on plain data. Slots hold data; a list that a slot owns may be written, all other data never changes. -/
namespace DL
open PySem L2

abbrev Ow := Addr → Prop
theorem kp0 {O : Ow} {H : Hp} : ∀ a o, H a = some o → ¬ O a → Kp H a o := fun _ _ e _ => .of e
mutual
/-- v is the datum d; none of its objects is owned -/
inductive Fz (O : Ow) (H : Hp) : V → PyData → Prop
  | non : Fz O H .non .none
  | bl (b : Bool) : Fz O H (.bl b) (.bool b)
  | int (i : Int) : Fz O H (.int i) (.int i)
  | str (x : Str) : Fz O H (.str x) (.str x)
  | lst {a : Addr} {xs : List V} {ds : List PyData} : H a = some (.lst xs) → ¬ O a → FzA O H xs ds → Fz O H (.ref a) (.list ds)
  | tup {a : Addr} {xs : List V} {ds : List PyData} : TrT H a xs → ¬ O a → FzA O H xs ds → Fz O H (.ref a) (.tuple ds)
  | dic {a : Addr} {o : Obj} {ks vs : List V} {kvs : List (PyData × PyData)} : H a = some (XO o a) → ¬ O a → DObj o ks vs (kvs.map Prod.fst) → FzA O H ks (kvs.map Prod.fst) → FzA O H vs (kvs.map Prod.snd) → Fz O H (.ref a) (.dict kvs)
inductive FzA (O : Ow) (H : Hp) : List V → List PyData → Prop
  | nil : FzA O H [] []
  | cons {v : V} {vs : List V} {d : PyData} {ds : List PyData} : Fz O H v d → FzA O H vs ds → FzA O H (v :: vs) (d :: ds)
end
mutual
theorem Fz.mono_ {O O' : Ow} {H H' : Hp} (k : ∀ a o, H a = some o → ¬ O a → Kp H' a o) (f : ∀ a, O' a → O a ∨ H a = none) : ∀ {v : V} {d : PyData}, Fz O H v d → Fz O' H' v d
  | _, _, .non => .non
  | _, _, .bl b => .bl b
  | _, _, .int i => .int i
  | _, _, .str x => .str x
  | _, _, .lst e n q => .lst (k _ _ e n) (fun z => (f _ z).elim n fun y => by rw [e] at y; cases y) (FzA.mono_ k f q)
  | _, _, .tup e n q => .tup (e.keep fun o eo => k _ o eo n) (fun z => (f _ z).elim n fun y => e.there y) (FzA.mono_ k f q)
  | _, _, .dic e n d q r => .dic (k _ _ e n) (fun z => (f _ z).elim n fun y => by rw [e] at y; cases y) d (FzA.mono_ k f q) (FzA.mono_ k f r)
theorem FzA.mono_ {O O' : Ow} {H H' : Hp} (k : ∀ a o, H a = some o → ¬ O a → Kp H' a o) (f : ∀ a, O' a → O a ∨ H a = none) : ∀ {vs : List V} {ds : List PyData}, FzA O H vs ds → FzA O' H' vs ds
  | _, _, .nil => .nil
  | _, _, .cons q r => .cons (Fz.mono_ k f q) (FzA.mono_ k f r)
end
theorem Fz.mono {O O' : Ow} {H H' : Hp} (k : ∀ a o, H a = some o → ¬ O a → Kp H' a o) (f : ∀ a, O' a → O a ∨ H a = none) (d : PyData) {v : V} (h : Fz O H v d) : Fz O' H' v d := h.mono_ k f
theorem FzA.mono {O O' : Ow} {H H' : Hp} (k : ∀ a o, H a = some o → ¬ O a → Kp H' a o) (f : ∀ a, O' a → O a ∨ H a = none) (ds : List PyData) {vs : List V} (h : FzA O H vs ds) : FzA O' H' vs ds := h.mono_ k f
theorem Fz.weak {O O' : Ow} {H : Hp} {v : V} {d : PyData} (h : Fz O H v d) (f : ∀ a, O' a → O a) : Fz O' H v d := h.mono kp0 (fun a z => .inl (f a z)) d
theorem FzA.weak {O O' : Ow} {H : Hp} {v : List V} {d : List PyData} (h : FzA O H v d) (f : ∀ a, O' a → O a) : FzA O' H v d := h.mono kp0 (fun a z => .inl (f a z)) d
theorem FzA.len {O : Ow} {H : Hp} : ∀ {vs : List V} {ds : List PyData}, FzA O H vs ds → vs.length = ds.length
  | [], _, h => by cases h; rfl
  | v :: vs, _, h => by
    cases h with
    | cons _ r => rw [List.length_cons, List.length_cons, r.len]
theorem FzA.get {O : Ow} {H : Hp} : ∀ {vs : List V} {ds : List PyData} {i : Nat} {d : PyData}, FzA O H vs ds → ds[i]? = some d → ∃ v, vs[i]? = some v ∧ Fz O H v d
  | [], _, i, d, h, e => by cases h; simp at e
  | v :: vs, _, 0, d, h, e => by
    cases h with
    | cons q _ => simp at e; subst e; exact ⟨v, by simp, q⟩
  | v :: vs, _, i + 1, d, h, e => by
    cases h with
    | cons _ r =>
      obtain ⟨w, h1, h2⟩ := FzA.get (i := i) r (by simpa using e)
      exact ⟨w, by simpa using h1, h2⟩
theorem FzA.append {O : Ow} {H : Hp} : ∀ {vs : List V} {ds : List PyData} {ws : List V} {es : List PyData}, FzA O H vs ds → FzA O H ws es → FzA O H (vs ++ ws) (ds ++ es)
  | [], _, _, _, h, g => by cases h; exact g
  | v :: vs, _, _, _, h, g => by
    cases h with
    | cons q r => exact .cons q (r.append g)
theorem FzA.set {O : Ow} {H : Hp} {v : V} {d : PyData} (q : Fz O H v d) : ∀ {vs : List V} {ds : List PyData} (i : Nat), FzA O H vs ds → FzA O H (vs.set i v) (ds.set i d)
  | [], _, _, h => by cases h; exact .nil
  | w :: vs, _, 0, h => by
    cases h with
    | cons _ r => exact .cons q r
  | w :: vs, _, i + 1, h => by
    cases h with
    | cons p r => exact .cons p (FzA.set q i r)
theorem FzA.take {O : Ow} {H : Hp} : ∀ {vs : List V} {ds : List PyData} (i : Nat), FzA O H vs ds → FzA O H (vs.take i) (ds.take i)
  | _, _, 0, _ => .nil
  | [], _, i + 1, h => by cases h; exact .nil
  | w :: vs, _, i + 1, h => by
    cases h with
    | cons p r => exact .cons p (r.take i)
theorem FzA.drop {O : Ow} {H : Hp} : ∀ {vs : List V} {ds : List PyData} (i : Nat), FzA O H vs ds → FzA O H (vs.drop i) (ds.drop i)
  | _, _, 0, h => h
  | [], _, i + 1, h => by cases h; exact .nil
  | w :: vs, _, i + 1, h => by
    cases h with
    | cons _ r => exact FzA.drop i r
theorem FzA.eraseIdx {O : Ow} {H : Hp} : ∀ {vs : List V} {ds : List PyData} (i : Nat), FzA O H vs ds → FzA O H (vs.eraseIdx i) (ds.eraseIdx i)
  | [], _, i, h => by cases h; exact .nil
  | w :: vs, _, 0, h => by
    cases h with
    | cons _ r => exact r
  | w :: vs, _, i + 1, h => by
    cases h with
    | cons p r => exact .cons p (r.eraseIdx i)
mutual
theorem Fz.dp {K : PySem.W.Frag} {O : Ow} {H : Hp} : ∀ {v : V} {d : PyData}, d.hasDict = false → Fz O H v d → Dp K H v d
  | _, _, _, .non => .non
  | _, _, _, .bl b => .bl b
  | _, _, _, .int i => .int i
  | _, _, _, .str x => .str x
  | _, _, z, .lst e n q => .lst (.of e) (FzA.dp (by simpa [PyData.hasDict] using z) q)
  | _, _, z, .tup e n q => .tup e.sq (FzA.dp (by simpa [PyData.hasDict] using z) q)
  | _, _, z, .dic _ _ _ _ _ => by simp [PyData.hasDict] at z
theorem FzA.dp {K : PySem.W.Frag} {O : Ow} {H : Hp} : ∀ {vs : List V} {ds : List PyData}, PyData.hasDictAll ds = false → FzA O H vs ds → DpAll K H vs ds
  | _, _, _, .nil => .nil
  | _, _, z, .cons q r => by
    simp only [PyData.hasDictAll, Bool.or_eq_false_iff] at z
    exact .cons (Fz.dp z.1 q) (FzA.dp z.2 r)
end
/-- all that was tracked is as it was -/
def Ext (H H' : Hp) : Prop := ∀ a o, H a = some o → H' a = some o
theorem Ext.refl (H : Hp) : Ext H H := fun _ _ e => e
theorem Ext.trans {H H1 H2 : Hp} (x : Ext H H1) (y : Ext H1 H2) : Ext H H2 := fun a o e => y a o (x a o e)
theorem Ext.new {H : Hp} {a : Addr} {o : HO} (h : H a = none) : Ext H (upd H a o) := fun b u e => by
  rw [upd_ne (ne_of_none e h)]; exact e
theorem Fz.ext {O : Ow} {H H' : Hp} {v : V} {d : PyData} (x : Ext H H') (h : Fz O H v d) : Fz O H' v d := h.mono (fun a o e _ => .of (x a o e)) (fun _ z => .inl z) d
theorem FzA.ext {O : Ow} {H H' : Hp} {v : List V} {d : List PyData} (x : Ext H H') (h : FzA O H v d) : FzA O H' v d := h.mono (fun a o e _ => .of (x a o e)) (fun _ z => .inl z) d

theorem Ext.kp {O : Ow} {H H' : Hp} (x : Ext H H') : ∀ a o, H a = some o → ¬ O a → Kp H' a o := fun a o e _ => .of (x a o e)
theorem Ext.kp1 {H H' : Hp} {a : Addr} (x : Ext H H') : ∀ o, H a = some o → Kp H' a o := fun o e => .of (x a o e)
/-- the object at a, owned -/
def Ob (O : Ow) (H : Hp) (a : Addr) : PyData → Prop
  | .list ds => ∃ xs, H a = some (.lst xs) ∧ FzA O H xs ds
  | .dict kvs => ∃ o ks vs, H a = some (XO o a) ∧ DObj o ks vs (kvs.map Prod.fst) ∧ FzA O H ks (kvs.map Prod.fst) ∧ FzA O H vs (kvs.map Prod.snd)
  | _ => False
theorem Ob.mono {O O' : Ow} {H H' : Hp} {a : Addr} (k : ∀ a o, H a = some o → ¬ O a → Kp H' a o) (f : ∀ a, O' a → O a ∨ H a = none) (hs : ∀ o, H a = some o → Kp H' a o) : ∀ {d : PyData}, Ob O H a d → Ob O' H' a d
  | .list ds, ⟨xs, e, q⟩ => ⟨xs, hs _ e, q.mono k f ds⟩
  | .none, h => h.elim
  | .bool _, h => h.elim
  | .int _, h => h.elim
  | .str _, h => h.elim
  | .tuple _, h => h.elim
  | .dict kvs, ⟨o, ks, vs, e, d, q, r⟩ => ⟨o, ks, vs, hs _ e, d, q.mono k f _, r.mono k f _⟩
theorem Ob.weak {O O' : Ow} {H : Hp} {a : Addr} {d : PyData} (h : Ob O H a d) (f : ∀ a, O' a → O a) : Ob O' H a d := h.mono kp0 (fun a z => .inl (f a z)) fun _ e => .of e
theorem Ob.ntc {O : Ow} {H : Hp} {a : Addr} : ∀ {d : PyData}, Ob O H a d → ∃ o, H a = some o ∧ NTC o
  | .list ds, ⟨xs, e, q⟩ => ⟨_, e, ntc_lst⟩
  | .none, h => h.elim
  | .bool _, h => h.elim
  | .int _, h => h.elim
  | .str _, h => h.elim
  | .tuple _, h => h.elim
  | .dict kvs, ⟨o, ks, vs, e, d, _⟩ => ⟨_, e, ntc_xo fun vs z => by obtain ⟨es, ep, _, h, _⟩ := d; rw [h] at z; cases z⟩
theorem Ob.there {O : Ow} {H : Hp} {a : Addr} : ∀ {d : PyData}, Ob O H a d → H a ≠ none
  | .list ds, ⟨xs, e, q⟩ => by rw [e]; simp
  | .none, h => h.elim
  | .bool _, h => h.elim
  | .int _, h => h.elim
  | .str _, h => h.elim
  | .tuple _, h => h.elim
  | .dict kvs, ⟨o, ks, vs, e, _⟩ => by rw [e]; simp
/-- it is given up -/
theorem Ob.fz {O O' : Ow} {H : Hp} {a : Addr} (f : ∀ a, O' a → O a) (n : ¬ O' a) : ∀ {d : PyData}, Ob O H a d → Fz O' H (.ref a) d
  | .list ds, ⟨xs, e, q⟩ => .lst e n (q.weak f)
  | .none, h => h.elim
  | .bool _, h => h.elim
  | .int _, h => h.elim
  | .str _, h => h.elim
  | .tuple _, h => h.elim
  | .dict kvs, ⟨o, ks, vs, e, d, q, r⟩ => .dic e n d (q.weak f) (r.weak f)

/-- what is read as d now; its parts are not owned -/
def Vw (O : Ow) (H : Hp) (v : V) : PyData → Prop
  | .list ds => ∃ a xs, v = .ref a ∧ H a = some (.lst xs) ∧ FzA O H xs ds
  | .tuple ds => ∃ a xs, v = .ref a ∧ TrT H a xs ∧ ¬ O a ∧ FzA O H xs ds
  | .none => v = .non
  | .bool b => v = .bl b
  | .int i => v = .int i
  | .str x => v = .str x
  | .dict kvs => ∃ a o ks vs, v = .ref a ∧ H a = some (XO o a) ∧ DObj o ks vs (kvs.map Prod.fst) ∧ FzA O H ks (kvs.map Prod.fst) ∧ FzA O H vs (kvs.map Prod.snd)
theorem Fz.vw {O : Ow} {H : Hp} {v : V} : ∀ {d : PyData}, Fz O H v d → Vw O H v d
  | .none, h => by cases h; rfl
  | .bool _, h => by cases h; rfl
  | .int _, h => by cases h; rfl
  | .str _, h => by cases h; rfl
  | .list ds, h => by
    cases h with
    | lst e n q => exact ⟨_, _, rfl, e, q⟩
  | .tuple ds, h => by
    cases h with
    | tup e n q => exact ⟨_, _, rfl, e, n, q⟩
  | .dict kvs, h => by
    cases h with
    | dic e n d q r => exact ⟨_, _, _, _, rfl, e, d, q, r⟩
theorem Ob.vw {O : Ow} {H : Hp} {a : Addr} : ∀ {d : PyData}, Ob O H a d → Vw O H (.ref a) d
  | .list ds, ⟨xs, e, q⟩ => ⟨a, xs, rfl, e, q⟩
  | .none, h => h.elim
  | .bool _, h => h.elim
  | .int _, h => h.elim
  | .str _, h => h.elim
  | .tuple _, h => h.elim
  | .dict kvs, ⟨o, ks, vs, e, d, q, r⟩ => ⟨a, o, ks, vs, rfl, e, d, q, r⟩
theorem Vw.dp {K : PySem.W.Frag} {O : Ow} {H : Hp} {v : V} : ∀ {d : PyData}, d.hasDict = false → Vw O H v d → Dp K H v d
  | .none, _, h => by cases h; exact .non
  | .bool b, _, h => by cases h; exact .bl b
  | .int i, _, h => by cases h; exact .int i
  | .str x, _, h => by cases h; exact .str x
  | .list ds, z, h => by
    obtain ⟨a, xs, rfl, e, q⟩ := h
    exact .lst (.of e) (FzA.dp (by simpa [PyData.hasDict] using z) q)
  | .tuple ds, z, h => by
    obtain ⟨a, xs, rfl, e, _, q⟩ := h
    exact .tup e.sq (FzA.dp (by simpa [PyData.hasDict] using z) q)
  | .dict _, z, h => by simp [PyData.hasDict] at z

/-! ### slots -/
inductive Kd where
  | frz | own | par
  deriving DecidableEq
structure Ex where
  c : String
  d : Option PyData
/-- a thing that stands still: the script, a caught error -/
inductive Th where
  | nums (ns : List Int) | err (x : Ex) | thk
instance : Coe (List Int) Th := ⟨.nums⟩
inductive Sl where
  | non | dat (d : PyData) (k : Kd) | scr (t : Th)
abbrev Ev := List Sl
def look : Ev → Nat → Sl
  | [], _ => .non
  | s :: _, 0 => s
  | _ :: r, i + 1 => look r i
def put : Ev → Nat → Sl → Ev
  | [], _, _ => []
  | _ :: r, 0, s => s :: r
  | t :: r, i + 1, s => t :: put r i s
theorem put_len : ∀ (ρ : Ev) (i : Nat) (s : Sl), (put ρ i s).length = ρ.length
  | [], _, _ => rfl
  | _ :: _, 0, _ => rfl
  | _ :: r, i + 1, s => by show (put r i s).length + 1 = r.length + 1; rw [put_len r i s]
theorem look_put : ∀ (ρ : Ev) (i j : Nat) (s : Sl), look (put ρ i s) j = if j = i ∧ i < ρ.length then s else look ρ j
  | [], i, j, s => by simp [put]
  | t :: r, 0, 0, s => by simp [put, look]
  | t :: r, 0, j + 1, s => by simp [put, look]
  | t :: r, i + 1, 0, s => by simp [put, look]
  | t :: r, i + 1, j + 1, s => by
    show look (put r i s) j = _
    rw [look_put r i j s]
    simp [look]
theorem look_put_ne {ρ : Ev} {i j : Nat} {s : Sl} (h : j ≠ i) : look (put ρ i s) j = look ρ j := by
  rw [look_put, if_neg fun z => h z.1]
theorem look_put_same {ρ : Ev} {i : Nat} {s : Sl} (h : i < ρ.length) : look (put ρ i s) i = s := by
  rw [look_put, if_pos ⟨rfl, h⟩]
theorem look_lt : ∀ {ρ : Ev} {i : Nat}, look ρ i ≠ .non → i < ρ.length
  | [], _, h => absurd rfl h
  | _ :: _, 0, _ => Nat.succ_pos _
  | _ :: r, i + 1, h => Nat.succ_lt_succ (look_lt (ρ := r) h)

/-- a script's list, known: by the heap, or the module's own -/
def ScrR (K : PySem.W.Frag) (O : Ow) (H : Hp) (a : Addr) (ns : List Int) : Prop := ((∃ o, H a = some (.frz o (.lst (ns.map V.int)))) ∧ ¬ O a) ∨ SqL K (fun _ => none) a (ns.map V.int)
theorem ScrR.sq {K : PySem.W.Frag} {O : Ow} {H : Hp} {a : Addr} {ns : List Int} (h : ScrR K O H a ns) : SqL K H a (ns.map V.int) := by
  rcases h with ⟨⟨o, e⟩, _⟩ | (e | ⟨o, e⟩) | e
  · exact .inl (.inr ⟨o, e⟩)
  · cases e
  · cases e
  · exact .inr e
theorem ScrR.mono {K : PySem.W.Frag} {O O' : Ow} {H H' : Hp} {a : Addr} {ns : List Int} (k : ∀ a o, H a = some o → ¬ O a → Kp H' a o) (f : ∀ a, O' a → O a ∨ H a = none) (h : ScrR K O H a ns) : ScrR K O' H' a ns := by
  rcases h with ⟨⟨o, e⟩, n⟩ | e
  · exact .inl ⟨⟨o, k _ _ e n⟩, fun z => (f _ z).elim n fun y => by rw [e] at y; cases y⟩
  · exact .inr e
/-- a function without parameters, made by a lambda: its place, its code object's, the code's name; what it captured -/
structure Tk where
  f : Addr
  c : Addr
  q : Str
  σ : L2.St
  ρ : Ev
/-- what a def leans on: the written part; the error classes; the tables of code objects; a function that the def got -/
structure Gm where
  K : PySem.W.Frag
  ct : String → Option Addr
  fld : String → Str
  T : List (Addr × Str) := []
  tk : Option Tk := none

/-- a caught error, kept at a -/
def ErrR (G : Gm) (O : Ow) (H : Hp) (a : Addr) (x : Ex) : Prop := ∃ C p, G.ct x.c = some C ∧ H a = some (EO (.ref C) p a) ∧ ¬ O a ∧ match x.d with
  | none => p = none
  | some d => ∃ q v, p = some q ∧ H q = some (.xd [(G.fld x.c, v)]) ∧ ¬ O q ∧ Fz O H v d
/-- what a function has captured: data that never change -/
def CapR (G : Gm) (O : Ow) (H : Hp) (σ : L2.St) (i : Nat) : Sl → Prop
  | .non => True
  | .dat d .frz => ∃ v, σ[i]? = some (some v) ∧ Fz O H v d
  | .scr (.nums ns) => ∃ a, σ[i]? = some (some (.ref a)) ∧ ScrR G.K O H a ns
  | _ => False
def ThR (G : Gm) (O : Ow) (H : Hp) (a : Addr) : Th → Prop
  | .nums ns => ScrR G.K O H a ns
  | .err x => ErrR G O H a x
  | .thk => ∃ T, G.tk = some T ∧ a = T.f ∧ T.ρ.length = T.σ.length ∧ ∀ i, CapR G O H T.σ i (look T.ρ i)
theorem CapR.mono {G : Gm} {O O' : Ow} {H H' : Hp} {σ : L2.St} {i : Nat} (k : ∀ a o, H a = some o → ¬ O a → Kp H' a o) (f : ∀ a, O' a → O a ∨ H a = none) : ∀ {s : Sl}, CapR G O H σ i s → CapR G O' H' σ i s
  | .non, _ => trivial
  | .dat d .frz, ⟨v, h1, h2⟩ => ⟨v, h1, h2.mono k f d⟩
  | .dat _ .own, h => h.elim
  | .dat _ .par, h => h.elim
  | .scr (.nums ns), ⟨a, h1, h2⟩ => ⟨a, h1, h2.mono k f⟩
  | .scr (.err _), h => h.elim
  | .scr .thk, h => h.elim
theorem ErrR.mono {G : Gm} {O O' : Ow} {H H' : Hp} {a : Addr} {x : Ex} (k : ∀ a o, H a = some o → ¬ O a → Kp H' a o) (f : ∀ a, O' a → O a ∨ H a = none) (h : ErrR G O H a x) : ErrR G O' H' a x := by
  obtain ⟨C, p, h1, h2, h3, h4⟩ := h
  refine ⟨C, p, h1, k _ _ h2 h3, (fun z => (f _ z).elim h3 fun y => by (rw [h2] at y; cases y)), ?_⟩
  cases e : x.d with
  | none => rw [e] at h4; exact h4
  | some d =>
    rw [e] at h4
    obtain ⟨q, v, g1, g2, g3, g4⟩ := h4
    exact ⟨q, v, g1, k _ _ g2 g3, (fun z => (f _ z).elim g3 fun y => by (rw [g2] at y; cases y)), g4.mono k f d⟩
theorem ThR.mono {G : Gm} {O O' : Ow} {H H' : Hp} {a : Addr} {t : Th} (k : ∀ a o, H a = some o → ¬ O a → Kp H' a o) (f : ∀ a, O' a → O a ∨ H a = none) (h : ThR G O H a t) : ThR G O' H' a t := by
  cases t with
  | nums ns => exact ScrR.mono k f h
  | err x => exact ErrR.mono k f h
  | thk =>
    obtain ⟨T, h1, h2, h5, h6⟩ := h
    exact ⟨T, h1, h2, h5, fun i => (h6 i).mono k f⟩

def SlR (G : Gm) (O : Ow) (B : Nat → Option Addr) (H : Hp) (A : Nat → Option Addr) (σ : L2.St) (i : Nat) : Sl → Prop
  | .non => True
  | .dat d .frz => ∃ v, σ[i]? = some (some v) ∧ Fz O H v d
  | .dat d .own => ∃ a, A i = some a ∧ σ[i]? = some (some (.ref a)) ∧ Ob O H a d
  | .dat d .par => ∃ a, A i = some a ∧ B i = some a ∧ σ[i]? = some (some (.ref a)) ∧ Ob O H a d
  | .scr t => ∃ a, σ[i]? = some (some (.ref a)) ∧ ThR G O H a t

def Oo (Z : Ow) (A : Nat → Option Addr) : Ow := fun a => Z a ∨ ∃ i, A i = some a
def Zx (Z : Ow) (a : Addr) : Ow := fun b => Z b ∨ b = a

/-- the tables of code objects; the code of the function that the def got -/
def TabsK (G : Gm) (H : Hp) : Prop := LamX.Tabs G.T H ∧ ∀ T, G.tk = some T → H T.c = some (LamX.CodeO T.c T.q)
theorem TabsK.ext {G : Gm} {H H' : Hp} (t : TabsK G H) (x : Ext H H') : TabsK G H' := ⟨t.1.ext x, fun T e => x _ _ (t.2 T e)⟩
theorem TabsK.upd {G : Gm} {H : Hp} {a : Addr} {o u : HO} (t : TabsK G H) (e : H a = some o) (n : NTC o) : TabsK G (upd H a u) := ⟨tabs_upd t.1 e n, fun T h => by
  rw [upd_ne]
  · exact t.2 T h
  · intro z
    have := t.2 T h
    rw [z, e] at this
    exact n.2 _ T.q (Option.some.inj this)⟩
structure Rep (G : Gm) (Z : Ow) (B : Nat → Option Addr) (σ : L2.St) (H : Hp) (ρ : Ev) (A : Nat → Option Addr) : Prop where
  len : ρ.length = σ.length
  at_ : ∀ i, SlR G (Oo Z A) B H A σ i (look ρ i)
  inj : ∀ i j a, A i = some a → A j = some a → i = j
  apart : ∀ i a, A i = some a → ¬ Z a
  zin : ∀ a, Z a → H a ≠ none
  ain : ∀ i a, A i = some a → H a ≠ none
  bpar : ∀ i a, B i = some a → ∃ d, look ρ i = .dat d .par
  tab : TabsK G H

theorem Rep.oin {G : Gm} {Z : Ow} {B A : Nat → Option Addr} {σ : L2.St} {H : Hp} {ρ : Ev} (R : Rep G Z B σ H ρ A) : ∀ a, Oo Z A a → H a ≠ none := fun a z => z.elim (R.zin a) fun ⟨i, e⟩ => R.ain i a e
structure Evo (A : Nat → Option Addr) (H : Hp) (A' : Nat → Option Addr) (H' : Hp) : Prop where
  keep : ∀ a o, H a = some o → (∀ i, A i ≠ some a) → Kp H' a o
  dom : ∀ a, H' a = none → H a = none
  sub : ∀ i a, A' i = some a → (∃ j, A j = some a) ∨ H a = none
section
variable {G : Gm} {Z Z' : Ow} {B A A1 A2 : Nat → Option Addr} {σ : L2.St} {H H1 H2 : Hp} {ρ : Ev}
theorem Evo.refl : Evo A H A H := ⟨fun _ _ e _ => .of e, fun _ e => e, fun i a e => .inl ⟨i, e⟩⟩
theorem Evo.trans (x : Evo A H A1 H1) (y : Evo A1 H1 A2 H2) : Evo A H A2 H2 :=
  ⟨fun a o e n => (x.keep a o e n).trans fun u eu => y.keep a u eu fun i z => (x.sub i a z).elim (fun ⟨j, w⟩ => n j w) fun w => (by rw [e] at w; cases w),
   fun a e => x.dom a (y.dom a e),
   fun i a e => (y.sub i a e).elim (fun ⟨j, w⟩ => x.sub j a w) fun w => .inr (x.dom a w)⟩
theorem Evo.ext (x : Ext H H1) : Evo A H A H1 := ⟨fun a o e _ => .of (x a o e), fun a e => (by
  cases q : H a with
  | none => rfl
  | some o => rw [x a o q] at e; cases e), fun i a e => .inl ⟨i, e⟩⟩
theorem Evo.fz (x : Evo A H A1 H1) {v : V} {d : PyData} (h : Fz (Oo Z A) H v d) : Fz (Oo Z A1) H1 v d :=
  h.mono (fun a o e n => x.keep a o e fun i z => n (.inr ⟨i, z⟩)) (fun a z => z.elim (fun z => .inl (.inl z)) fun ⟨i, z⟩ => (x.sub i a z).elim (fun w => .inl (.inr w)) .inr) d
theorem Evo.fzA (x : Evo A H A1 H1) {v : List V} {d : List PyData} (h : FzA (Oo Z A) H v d) : FzA (Oo Z A1) H1 v d :=
  h.mono (fun a o e n => x.keep a o e fun i z => n (.inr ⟨i, z⟩)) (fun a z => z.elim (fun z => .inl (.inl z)) fun ⟨i, z⟩ => (x.sub i a z).elim (fun w => .inl (.inr w)) .inr) d
/-- objects added -/
theorem Rep.ext (R : Rep G Z B σ H ρ A) (x : Ext H H1) : Rep G Z B σ H1 ρ A := by
  refine ⟨R.len, fun i => ?_, R.inj, R.apart, fun a z => ?_, fun i a z => ?_, R.bpar, R.tab.ext x⟩
  · have h := R.at_ i
    cases e : look ρ i with
    | non => trivial
    | scr ns =>
      rw [e] at h
      obtain ⟨a, h1, h2⟩ := h
      exact ⟨a, h1, h2.mono x.kp fun _ z => .inl z⟩
    | dat d k =>
      rw [e] at h
      cases k with
      | frz => obtain ⟨v, h1, h2⟩ := h; exact ⟨v, h1, h2.ext x⟩
      | own => obtain ⟨a, h0, h1, h2⟩ := h; exact ⟨a, h0, h1, h2.mono x.kp (fun _ z => .inl z) x.kp1⟩
      | par => obtain ⟨a, h0, hb, h1, h2⟩ := h; exact ⟨a, h0, hb, h1, h2.mono x.kp (fun _ z => .inl z) x.kp1⟩
  · have := R.zin a z
    cases q : H a with
    | none => exact absurd q this
    | some o => rw [x a o q]; simp
  · have := R.ain i a z
    cases q : H a with
    | none => exact absurd q this
    | some o => rw [x a o q]; simp
theorem SlR.weakO {O O' : Ow} {i : Nat} (f : ∀ a, O' a → O a) : ∀ {s : Sl}, SlR G O B H A σ i s → SlR G O' B H A σ i s
  | .non, _ => trivial
  | .scr ns, ⟨a, h1, h2⟩ => ⟨a, h1, h2.mono kp0 fun a z => .inl (f a z)⟩
  | .dat d .frz, ⟨v, h1, h2⟩ => ⟨v, h1, h2.weak f⟩
  | .dat d .own, ⟨a, h0, h1, h2⟩ => ⟨a, h0, h1, h2.weak f⟩
  | .dat d .par, ⟨a, h0, hb, h1, h2⟩ => ⟨a, h0, hb, h1, h2.weak f⟩
theorem Rep.dropZ (R : Rep G Z B σ H ρ A) (f : ∀ a, Z' a → Z a) : Rep G Z' B σ H ρ A :=
  ⟨R.len, fun i => (R.at_ i).weakO fun a z => z.elim (fun z => .inl (f a z)) .inr, R.inj, fun i a e z => R.apart i a e (f a z), fun a z => R.zin a (f a z), R.ain, R.bpar, R.tab⟩

/-! ### readings of expressions -/
/-- what a caught error is -/
def ExR (G : Gm) (O : Ow) (H : Hp) (x : Ex) (cv : Value) (dx : Option Addr) : Prop :=
  ∃ C, G.ct x.c = some C ∧ cv = .ref C ∧ match x.d with
    | none => dx = none
    | some d => ∃ p v, dx = some p ∧ H p = some (.xd [(G.fld x.c, v)]) ∧ ¬ O p ∧ Fz O H v d
abbrev Wi := Value → Option Addr → L2.St → Hp → Prop
/-- a value: a datum, a new list, the list of slot i, the script -/
inductive RV where
  | shr (d : PyData) | tmp (d : PyData) | var (i : Nat)
inductive Ro (α : Type) where
  | ok (a : α) (ρ : Ev) | exc (x : Ex) (ρ : Ev) | bad
abbrev EvE := Ev → Ro RV
abbrev PF (α : Type) := Hp → (Nat → Option Addr) → α → Ev → Prop
def Done {α : Type} (G : Gm) (W : Wi) (Z : Ow) (B : Nat → Option Addr) (σ : L2.St) (P : PF α) (H : Hp) (A : Nat → Option Addr) : Ro α → Prop
  | .ok a ρ' => P H A a ρ'
  | .exc x ρ' => ∀ cv dx H' A', Rep G Z B σ H' ρ' A' → Evo A H A' H' → ExR G (Oo Z A') H' x cv dx → W cv dx σ H'
  | .bad => False
def pE (G : Gm) (Z : Ow) (B : Nat → Option Addr) (σ : L2.St) (Q : VK) : PF RV := fun H A r ρ' => match r with
  | .shr d => ∀ v H' A', Rep G Z B σ H' ρ' A' → Evo A H A' H' → Fz (Oo Z A') H' v d → Q v H'
  | .var i => ∀ v H' A', Rep G Z B σ H' ρ' A' → Evo A H A' H' → σ[i]? = some (some v) → Q v H'
  | .tmp d => ∀ a H' A', Rep G (Zx Z a) B σ H' ρ' A' → Evo A H A' H' → H a = none → Ob (Oo (Zx Z a) A') H' a d → Q (.ref a) H'
def dE (G : Gm) (W : Wi) (ev : EvE) : TE := fun σ H Q => ∃ Z B ρ A, Rep G Z B σ H ρ A ∧ Done G W Z B σ (pE G Z B σ Q) H A (ev ρ)
structure DE (X : Cx) (G : Gm) (W : Wi) (e : Expr) (ev : EvE) : Prop where
  pe : PE X e (dE G W ev)
/-- how a value is held while others are reckoned -/
def HV (Z : Ow) (A : Nat → Option Addr) (H : Hp) (σ : L2.St) (v : V) : RV → Prop
  | .shr d => Fz (Oo Z A) H v d
  | .tmp d => Fz (Oo Z A) H v d
  | .var i => σ[i]? = some (some v)
def res (ρ : Ev) : RV → Option PyData
  | .shr d => some d
  | .tmp d => some d
  | .var i => match look ρ i with
    | .dat d _ => some d
    | _ => none
section
variable {X : Cx} {G : Gm} {W : Wi} {Z Z' : Ow} {B A A1 A2 : Nat → Option Addr} {σ : L2.St} {H H1 H2 : Hp} {ρ ρ1 ρ2 : Ev} {Q : VK} {v : V} {r : RV}
theorem PE_imp {e : Expr} {t t' : TE} (h : PE X e t) (i : ∀ σ H Q, t' σ H Q → t σ H Q) : PE X e t' := ⟨fun pins s σ H Q I q => h.run pins s σ H Q I (i σ H Q q)⟩
theorem HV.evo (h : HV Z A H σ v r) (x : Evo A H A1 H1) : HV Z A1 H1 σ v r := by
  cases r with
  | shr d => exact x.fz h
  | tmp d => exact x.fz h
  | var i => exact h
theorem oo_zx {Z : Ow} {a : Addr} : ∀ b, Oo Z A b → Oo (Zx Z a) A b := fun b z => z.elim (fun z => .inl (.inl z)) .inr
theorem tmp_fz {a : Addr} {d : PyData} (R : Rep G Z B σ H ρ A) (R' : Rep G (Zx Z a) B σ H1 ρ1 A1) (n : H a = none) (o : Ob (Oo (Zx Z a) A1) H1 a d) : Fz (Oo Z A1) H1 (.ref a) d :=
  o.fz oo_zx fun z => z.elim (fun z => R.zin a z n) fun ⟨i, e⟩ => R'.apart i a e (.inr rfl)
/-- a value is used -/
theorem dE_ok {ev : EvE} (R : Rep G Z B σ H ρ A) (e : ev ρ = .ok r ρ1) (k : ∀ v H' A', Rep G Z B σ H' ρ1 A' → Evo A H A' H' → HV Z A' H' σ v r → Q v H') : dE G W ev σ H Q := by
  refine ⟨Z, B, ρ, A, R, ?_⟩
  rw [e]
  cases r with
  | shr d => exact fun v H' A' R' x f => k v H' A' R' x f
  | var i => exact fun v H' A' R' x f => k v H' A' R' x f
  | tmp d => exact fun a H' A' R' x n o => k _ H' A' (R'.dropZ fun b z => .inl z) x (tmp_fz R R' n o)
theorem HV.vw {d : PyData} (h : HV Z A H σ v r) (R : Rep G Z B σ H ρ A) (e : res ρ r = some d) : Vw (Oo Z A) H v d := by
  cases r with
  | shr c => cases e; exact Fz.vw h
  | tmp c => cases e; exact Fz.vw h
  | var i =>
    have q := R.at_ i
    unfold res at e
    cases l : look ρ i with
    | non => simp [l] at e
    | scr ns => simp [l] at e
    | dat c k =>
      simp [l] at e
      subst e
      rw [l] at q
      have h' : σ[i]? = some (some v) := h
      cases k with
      | frz => obtain ⟨w, h1, h2⟩ := q; rw [h'] at h1; cases h1; exact h2.vw
      | own => obtain ⟨a, _, h1, h2⟩ := q; rw [h'] at h1; cases h1; exact h2.vw
      | par => obtain ⟨a, _, _, h1, h2⟩ := q; rw [h'] at h1; cases h1; exact h2.vw

/-! ### results of operations on values -/
inductive PR where
  | val (d : PyData) | new (d : List PyData) | bad
def PR.out (ρ : Ev) : PR → Ro RV
  | .val d => .ok (.shr d) ρ
  | .new ds => .ok (.tmp (.list ds)) ρ
  | .bad => .bad
def Ro.bind {α β : Type} (x : Ro α) (f : α → Ev → Ro β) : Ro β := match x with
  | .ok a ρ => f a ρ
  | .exc e ρ => .exc e ρ
  | .bad => .bad
def PRS (O : Ow) (H : Hp) (Q : VK) : PR → Prop
  | .val d => ∀ v H', Ext H H' → Fz O H' v d → Q v H'
  | .new ds => ∀ a xs H1 H', Ext H H1 → H1 a = none → Ext H1 H' → H' a = some (.lst xs) → FzA O H1 xs ds → Q (.ref a) H'
  | .bad => False
theorem Rep.newZ {a : Addr} (R : Rep G Z B σ H ρ A) (x : Ext H H1) (n : H a = none) (h : H1 a ≠ none) : Rep G (Zx Z a) B σ H1 ρ A := by
  have f : ∀ b, Oo (Zx Z a) A b → Oo Z A b ∨ H b = none := fun b z => z.elim (fun z => z.elim (fun z => .inl (.inl z)) fun z => .inr (by rw [z]; exact n)) fun z => .inl (.inr z)
  refine ⟨R.len, fun i => ?_, R.inj, fun i b e z => z.elim (R.apart i b e) fun z => R.ain i b e (by rw [z]; exact n), fun b z => z.elim (fun z => (R.ext x).zin b z) fun z => by rw [z]; exact h, (R.ext x).ain, R.bpar, R.tab.ext x⟩
  have q := R.at_ i
  cases l : look ρ i with
  | non => trivial
  | scr ns =>
    rw [l] at q
    obtain ⟨b, h1, h2⟩ := q
    exact ⟨b, h1, h2.mono x.kp f⟩
  | dat c k =>
    rw [l] at q
    cases k with
    | frz => obtain ⟨v, h1, h2⟩ := q; exact ⟨v, h1, h2.mono x.kp f c⟩
    | own => obtain ⟨b, h0, h1, h2⟩ := q; exact ⟨b, h0, h1, h2.mono x.kp f x.kp1⟩
    | par => obtain ⟨b, h0, hb, h1, h2⟩ := q; exact ⟨b, h0, hb, h1, h2.mono x.kp f x.kp1⟩

def Shifts {α : Type} (P : PF α) : Prop := ∀ H A H1 A1 a ρ, Evo A H A1 H1 → P H A a ρ → P H1 A1 a ρ
theorem shift_E : Shifts (pE G Z B σ Q) := fun H A H1 A1 r ρ x h => by
  cases r with
  | shr d => exact fun v H' A' R y f => h v H' A' R (x.trans y) f
  | var i => exact fun v H' A' R y f => h v H' A' R (x.trans y) f
  | tmp d => exact fun a H' A' R y n o => h a H' A' R (x.trans y) (x.dom a n) o
theorem Done.shift {α : Type} {P : PF α} (sh : Shifts P) (x : Evo A H A1 H1) {r : Ro α} (h : Done G W Z B σ P H A r) : Done G W Z B σ P H1 A1 r := by
  cases r with
  | ok a ρ' => exact sh _ _ _ _ _ _ x h
  | exc e ρ' => exact fun cv dx H' A' R y q => h cv dx H' A' R (x.trans y) q
  | bad => exact h
theorem Done.same {α β : Type} {P : PF α} {P' : PF β} {x : Ex} {ρ' : Ev} (h : Done G W Z B σ P H A (.exc x ρ')) : Done G W Z B σ P' H A (.exc x ρ' : Ro β) := h
/-- first ev, then k -/
theorem dE_bind {α : Type} {P : PF α} (sh : Shifts P) {ev : EvE} {k : RV → Ev → Ro α} {Q' : VK} (R : Rep G Z B σ H ρ A) (d : Done G W Z B σ P H A ((ev ρ).bind k))
    (h : ∀ r ρ1 v H1 A1, Rep G Z B σ H1 ρ1 A1 → Evo A H A1 H1 → HV Z A1 H1 σ v r → Done G W Z B σ P H1 A1 (k r ρ1) → Q' v H1) : dE G W ev σ H Q' := by
  cases e : ev ρ with
  | ok r ρ1 =>
    rw [e] at d
    exact dE_ok R e fun v H' A' R' x f => h r ρ1 v H' A' R' x f (d.shift sh x)
  | exc y ρ1 =>
    rw [e] at d
    exact ⟨Z, B, ρ, A, R, by rw [e]; exact d⟩
  | bad =>
    rw [e] at d
    exact d.elim
/-- an operation's end -/
theorem prs_fin {p : PR} (R : Rep G Z B σ H ρ A) (d : Done G W Z B σ (pE G Z B σ Q) H A (p.out ρ)) : PRS (Oo Z A) H Q p := by
  cases p with
  | val c => exact fun v H' x f => d v H' A (R.ext x) (.ext x) f
  | new ds =>
    intro a xs H1 H' x1 n x2 e f
    have n0 : H a = none := by
      cases q : H a with
      | none => rfl
      | some o => rw [x1 a o q] at n; cases n
    refine d a H' A ((R.ext x1).newZ x2 n (by rw [e]; simp)) (.ext (x1.trans x2)) n0 ⟨xs, e, f.mono x2.kp (fun b z => ?_) ds⟩
    exact z.elim (fun z => z.elim (fun z => .inl (.inl z)) fun z => .inr (by rw [z]; exact n)) fun z => .inl (.inr z)
  | bad => exact d.elim

/-! ### names, constants, operators -/
def eV (i : Nat) : EvE := fun ρ => match look ρ i with
  | .dat d .frz => .ok (.shr d) ρ
  | .non => .bad
  | _ => .ok (.var i) ρ
theorem de_var {i : Nat} {x : Str} {pos : Pos} (h : PE X (.Name x pos) (tVar i)) : DE X G W (.Name x pos) (eV i) := ⟨PE_imp h fun σ H Q ⟨Z, B, ρ, A, R, d⟩ => by
  have q := R.at_ i
  unfold eV at d
  cases l : look ρ i with
  | non => rw [l] at d; exact d.elim
  | scr ns =>
    rw [l] at d q
    obtain ⟨a, h1, h2⟩ := q
    exact ⟨_, h1, d _ H A R .refl h1⟩
  | dat c k =>
    rw [l] at d q
    cases k with
    | frz => obtain ⟨v, h1, h2⟩ := q; exact ⟨v, h1, d v H A R .refl h2⟩
    | own => obtain ⟨a, _, h1, h2⟩ := q; exact ⟨_, h1, d _ H A R .refl h1⟩
    | par => obtain ⟨a, _, _, h1, h2⟩ := q; exact ⟨_, h1, d _ H A R .refl h1⟩⟩
def eC (d : PyData) : EvE := fun ρ => .ok (.shr d) ρ
theorem de_c {e : Expr} {v : V} {c : PyData} (h : PE X e (tC v)) (f : ∀ O H, Fz O H v c) : DE X G W e (eC c) := ⟨PE_imp h fun σ H Q ⟨Z, B, ρ, A, R, d⟩ => d v H A R .refl (f _ _)⟩
theorem de_int {i : Int} {j pos} : DE X G W (.Constant (.int i) j pos) (eC (.int i)) := de_c pe_int fun _ _ => .int i
theorem de_bl {b : Bool} {j pos} : DE X G W (.Constant (.bool b) j pos) (eC (.bool b)) := de_c pe_bl fun _ _ => .bl b
theorem de_non {j pos} : DE X G W (.Constant .none j pos) (eC .none) := de_c pe_non fun _ _ => .non
theorem de_str {x : Str} {j pos} : DE X G W (.Constant (.str x) j pos) (eC (.str x)) := de_c pe_str fun _ _ => .str x

abbrev G2 := PyData → PyData → PR
def Op2S (r : R2) (g : G2) : Prop := ∀ (O : Ow) (H : Hp) (x y : V) (dx dy : PyData) (Q : VK), (∀ a, O a → H a ≠ none) → Vw O H x dx → Vw O H y dy → PRS O H Q (g dx dy) → r x y H Q
def p2 (g : G2) (ρ : Ev) (r s : RV) : PR := match res ρ r, res ρ s with
  | some x, some y => g x y
  | _, _ => .bad
def eOp (g : G2) (a b : EvE) : EvE := fun ρ => (a ρ).bind fun r ρ1 => (b ρ1).bind fun s ρ2 => (p2 g ρ2 r s).out ρ2
theorem op2_ok {r : R2} {g : G2} (hs : Op2S r g) {a b : EvE} (d : Done G W Z B σ (pE G Z B σ Q) H A (eOp g a b ρ)) (R : Rep G Z B σ H ρ A) :
    tOp r (dE G W a) (dE G W b) σ H Q := by
  refine dE_bind shift_E R d fun r1 ρ1 v H1 A1 R1 x1 f1 d1 => ?_
  refine dE_bind shift_E R1 d1 fun r2 ρ2 u H2 A2 R2 x2 f2 d2 => ?_
  have f1' := f1.evo x2
  unfold p2 at d2
  cases e1 : res ρ2 r1 with
  | none => rw [e1] at d2; exact d2.elim
  | some dx =>
    cases e2 : res ρ2 r2 with
    | none => rw [e1, e2] at d2; exact d2.elim
    | some dy =>
      rw [e1, e2] at d2
      exact hs _ H2 v u dx dy Q R2.oin (f1'.vw R2 e1) (f2.vw R2 e2) (prs_fin R2 d2)
theorem de_op {op : Operator} {r : R2} {g : G2} {a b : Expr} {ea eb : EvE} {pos : Pos} (ho : OpR X (binaryOp op) r) (hs : Op2S r g) (ha : DE X G W a ea) (hb : DE X G W b eb) : DE X G W (.BinOp a op b pos) (eOp g ea eb) :=
  ⟨PE_imp (pe_op ho ha.pe hb.pe) fun σ H Q ⟨Z, B, ρ, A, R, d⟩ => op2_ok hs d R⟩
theorem de_cmp {op : CmpOp} {r : R2} {g : G2} {a b : Expr} {ea eb : EvE} {pos : Pos} (ho : OpR X (compareOp op) r) (hs : Op2S r g) (ha : DE X G W a ea) (hb : DE X G W b eb) (hm : behindInMarks op b = false) : DE X G W (.Compare a [op] [b] pos) (eOp g ea eb) :=
  ⟨PE_imp (pe_cmpR ho ha.pe hb.pe hm) fun σ H Q ⟨Z, B, ρ, A, R, d⟩ => op2_ok hs d R⟩
theorem de_ix {r : R2} {g : G2} {a b : Expr} {ea eb : EvE} {pos : Pos} (ho : IxR X r) (hs : Op2S r g) (ha : DE X G W a ea) (hb : DE X G W b eb) (hp : PlainIx b) : DE X G W (.Subscript a b pos) (eOp g ea eb) :=
  ⟨PE_imp (pe_ix ho ha.pe hb.pe hp) fun σ H Q ⟨Z, B, ρ, A, R, d⟩ => op2_ok hs d R⟩
abbrev G1 := PyData → PR
def Un1S (r : V → Hp → VK → Prop) (g : G1) : Prop := ∀ (O : Ow) (H : Hp) (x : V) (dx : PyData) (Q : VK), (∀ a, O a → H a ≠ none) → Vw O H x dx → PRS O H Q (g dx) → r x H Q
def p1 (g : G1) (ρ : Ev) (r : RV) : PR := match res ρ r with
  | some x => g x
  | none => .bad
def eUn (g : G1) (a : EvE) : EvE := fun ρ => (a ρ).bind fun r ρ1 => (p1 g ρ1 r).out ρ1
theorem de_un {op : UnaryOp} {r : V → Hp → VK → Prop} {g : G1} {a : Expr} {ea : EvE} {pos : Pos} (ho : UnR X (unaryOp op) r) (hs : Un1S r g) (ha : DE X G W a ea) : DE X G W (.UnaryOp op a pos) (eUn g ea) :=
  ⟨PE_imp (pe_un ho ha.pe) fun σ H Q ⟨Z, B, ρ, A, R, d⟩ => by
    refine dE_bind shift_E R d fun r1 ρ1 v H1 A1 R1 x1 f1 d1 => ?_
    unfold p1 at d1
    cases e1 : res ρ1 r1 with
    | none => rw [e1] at d1; exact d1.elim
    | some dx => rw [e1] at d1; exact hs _ H1 v dx Q R1.oin (f1.vw R1 e1) (prs_fin R1 d1)⟩

/-! ### several values, from the left -/
abbrev EvA := Ev → Ro (List RV)
inductive HVs (Z : Ow) (A : Nat → Option Addr) (H : Hp) (σ : L2.St) : List V → List RV → Prop
  | nil : HVs Z A H σ [] []
  | cons {v : V} {vs : List V} {r : RV} {rs : List RV} : HV Z A H σ v r → HVs Z A H σ vs rs → HVs Z A H σ (v :: vs) (r :: rs)
theorem HVs.evo (x : Evo A H A1 H1) : ∀ {vs : List V} {rs : List RV}, HVs Z A H σ vs rs → HVs Z A1 H1 σ vs rs
  | _, _, .nil => .nil
  | _, _, .cons h t => .cons (h.evo x) (HVs.evo x t)
def pA (G : Gm) (Z : Ow) (B : Nat → Option Addr) (σ : L2.St) (Q : List V → Hp → Prop) : PF (List RV) := fun H A rs ρ' =>
  ∀ vs H' A', Rep G Z B σ H' ρ' A' → Evo A H A' H' → HVs Z A' H' σ vs rs → Q vs H'
theorem shift_A {Q : List V → Hp → Prop} : Shifts (pA G Z B σ Q) := fun H A H1 A1 r ρ x h vs H' A' R y f => h vs H' A' R (x.trans y) f
def dA (G : Gm) (W : Wi) (ev : EvA) : TA := fun σ H Q => ∃ Z B ρ A, Rep G Z B σ H ρ A ∧ Done G W Z B σ (pA G Z B σ Q) H A (ev ρ)
structure DA (X : Cx) (G : Gm) (W : Wi) (es : List Expr) (ev : EvA) : Prop where
  pa : PA X es (dA G W ev)
def eNil : EvA := fun ρ => .ok [] ρ
def eCons (a : EvE) (r : EvA) : EvA := fun ρ => (a ρ).bind fun x ρ1 => (r ρ1).bind fun xs ρ2 => .ok (x :: xs) ρ2
theorem PA_imp {es : List Expr} {t t' : TA} (h : PA X es t) (i : ∀ σ H Q, t' σ H Q → t σ H Q) : PA X es t' := ⟨fun pos pins s σ H Q I q => h.run pos pins s σ H Q I (i σ H Q q)⟩
theorem dA_bind {α : Type} {P : PF α} (sh : Shifts P) {ev : EvA} {k : List RV → Ev → Ro α} {Q' : List V → Hp → Prop} (R : Rep G Z B σ H ρ A) (d : Done G W Z B σ P H A ((ev ρ).bind k))
    (h : ∀ rs ρ1 vs H1 A1, Rep G Z B σ H1 ρ1 A1 → Evo A H A1 H1 → HVs Z A1 H1 σ vs rs → Done G W Z B σ P H1 A1 (k rs ρ1) → Q' vs H1) : dA G W ev σ H Q' := by
  refine ⟨Z, B, ρ, A, R, ?_⟩
  cases e : ev ρ with
  | ok rs ρ1 =>
    rw [e] at d
    exact fun vs H' A' R' x f => h rs ρ1 vs H' A' R' x f (d.shift sh x)
  | exc y ρ1 =>
    rw [e] at d
    exact d
  | bad =>
    rw [e] at d
    exact d.elim
theorem da_nil : DA X G W [] eNil := ⟨PA_imp pa_nil fun σ H Q ⟨Z, B, ρ, A, R, d⟩ => d [] H A R .refl .nil⟩
theorem da_cons {e : Expr} {es : List Expr} {ea : EvE} {er : EvA} (ha : DE X G W e ea) (hr : DA X G W es er) (hs : starEach (e :: es) X.env = (false, eval e X.env) :: starEach es X.env := by rfl) : DA X G W (e :: es) (eCons ea er) :=
  ⟨PA_imp (pa_cons ha.pe hr.pa hs) fun σ H Q ⟨Z, B, ρ, A, R, d⟩ => by
    refine dE_bind shift_A R d fun r1 ρ1 v H1 A1 R1 x1 f1 d1 => ?_
    refine dA_bind shift_A R1 d1 fun rs ρ2 vs H2 A2 R2 x2 f2 d2 => ?_
    exact d2 (v :: vs) H2 A2 R2 .refl (.cons (f1.evo x2) f2)⟩
def resA (ρ : Ev) : List RV → Option (List PyData)
  | [] => some []
  | r :: rs => match res ρ r, resA ρ rs with
    | some d, some ds => some (d :: ds)
    | _, _ => none
inductive VwA (O : Ow) (H : Hp) : List V → List PyData → Prop
  | nil : VwA O H [] []
  | cons {v : V} {vs : List V} {d : PyData} {ds : List PyData} : Vw O H v d → VwA O H vs ds → VwA O H (v :: vs) (d :: ds)
theorem HVs.vw (R : Rep G Z B σ H ρ A) : ∀ {vs : List V} {rs : List RV} {ds : List PyData}, HVs Z A H σ vs rs → resA ρ rs = some ds → VwA (Oo Z A) H vs ds
  | _, _, _, .nil, e => by cases e; exact .nil
  | _, _, _, .cons (r := r) (rs := rs) h t, e => by
    unfold resA at e
    cases e1 : res ρ r with
    | none => rw [e1] at e; cases e
    | some d =>
      cases e2 : resA ρ rs with
      | none => rw [e1, e2] at e; cases e
      | some ds => rw [e1, e2] at e; cases e; exact .cons (h.vw R e1) (HVs.vw R t e2)
/-- a built-in's call -/
abbrev GN := List PyData → PR
def CallS (r : List V → Hp → VK → Prop) (g : GN) : Prop := ∀ (O : Ow) (H : Hp) (xs : List V) (ds : List PyData) (Q : VK), (∀ a, O a → H a ≠ none) → VwA O H xs ds → PRS O H Q (g ds) → r xs H Q
def pN (g : GN) (ρ : Ev) (rs : List RV) : PR := match resA ρ rs with
  | some ds => g ds
  | none => .bad
def eB (g : GN) (a : EvA) : EvE := fun ρ => (a ρ).bind fun rs ρ1 => (pN g ρ1 rs).out ρ1
theorem call_ok {r : List V → Hp → VK → Prop} {g : GN} (hs : CallS r g) {a : EvA} (d : Done G W Z B σ (pE G Z B σ Q) H A (eB g a ρ)) (R : Rep G Z B σ H ρ A) :
    tCB r (dA G W a) σ H Q := by
  refine dA_bind shift_E R d fun rs ρ1 vs H1 A1 R1 x1 f1 d1 => ?_
  unfold pN at d1
  cases e1 : resA ρ1 rs with
  | none => rw [e1] at d1; exact d1.elim
  | some ds => rw [e1] at d1; exact hs _ H1 vs ds Q R1.oin (f1.vw R1 e1) (prs_fin R1 d1)
section
variable {id T : String} {x : Str} {p pos : Pos} {e : Expr} {es : List Expr} {ea : EvA} {g : GN} {r' : List V → Hp → VK → Prop}
theorem de_B (hc : CallR X (.builtin id) r') (hs : CallS r' g) (hg : Gl X x) (hm : X.mg x = none) (hv : bootBuiltins x = some (.builtin id)) (ha : DA X G W (e :: es) ea) (hn : x ≠ "__name__" := by decide) (hdb : (x == ("__debug__" : Str)) = false := by decide)
    (he : starEach (e :: es) X.env = (false, eval e X.env) :: starEach es X.env := by rfl) (hpl : (backTo pos (starEach es X.env)).any (·.1) = false := by rfl) : DE X G W (.Call (.Name x p) (e :: es) [] pos) (eB g ea) :=
  ⟨PE_imp (pe_callB hc hg hm hv ha.pa hn hdb he hpl) fun σ H Q ⟨Z, B, ρ, A, R, d⟩ => call_ok hs d R⟩
theorem de_T (hc : CallR X (.type T) r') (hs : CallS r' g) (hg : Gl X x) (hm : X.mg x = none) (hv : bootBuiltins x = some (.type T)) (ha : DA X G W (e :: es) ea) (hn : x ≠ "__name__" := by decide) (hdb : (x == ("__debug__" : Str)) = false := by decide)
    (he : starEach (e :: es) X.env = (false, eval e X.env) :: starEach es X.env := by rfl) (hpl : (backTo pos (starEach es X.env)).any (·.1) = false := by rfl) : DE X G W (.Call (.Name x p) (e :: es) [] pos) (eB g ea) :=
  ⟨PE_imp (pe_callTy hc hg hm hv ha.pa hn hdb he hpl) fun σ H Q ⟨Z, B, ρ, A, R, d⟩ => call_ok hs d R⟩
end
end
end
end DL

namespace DL
open PySem L2
section
variable {X : Cx} {G : Gm} {W : Wi} {Z Z' : Ow} {B A A1 A2 : Nat → Option Addr} {σ : L2.St} {H H1 H2 : Hp} {ρ ρ1 ρ2 : Ev} {Q : VK} {v : V} {r : RV}

/-! ### slots turned -/
def cut (A : Nat → Option Addr) (i : Nat) : Nat → Option Addr := fun j => if j = i then none else A j
def cnew (A : Nat → Option Addr) (i : Nat) (a : Addr) : Nat → Option Addr := fun j => if j = i then some a else A j
theorem cut_some {i j : Nat} {a : Addr} (h : cut A i j = some a) : j ≠ i ∧ A j = some a := by
  unfold cut at h
  by_cases e : j = i
  · rw [if_pos e] at h; cases h
  · rw [if_neg e] at h; exact ⟨e, h⟩
theorem cut_ne {i j : Nat} (e : j ≠ i) : cut A i j = A j := by unfold cut; rw [if_neg e]
theorem oo_cut {i : Nat} : ∀ a, Oo Z (cut A i) a → Oo Z A a := fun a z => z.elim .inl fun ⟨j, e⟩ => .inr ⟨j, (cut_some e).2⟩
theorem evo_cut {i : Nat} : Evo A H (cut A i) H := ⟨fun _ _ e _ => .of e, fun _ e => e, fun j a e => .inl ⟨j, (cut_some e).2⟩⟩
theorem get_set {σ : L2.St} {i j : Nat} {o : Option V} (h : j ≠ i) : (σ.set i o)[j]? = σ[j]? := by rw [List.getElem?_set]; rw [if_neg (fun e => h e.symm)]
/-- slots of other numbers -/
theorem SlR.other {O' : Ow} {A' : Nat → Option Addr} {σ' : L2.St} {i : Nat} (f : ∀ a, O' a → Oo Z A a) (ea : A' i = A i) (es : σ'[i]? = σ[i]?) : ∀ {s : Sl}, SlR G (Oo Z A) B H A σ i s → SlR G O' B H A' σ' i s
  | .non, _ => trivial
  | .scr ns, ⟨a, h1, h2⟩ => ⟨a, es.trans h1, h2.mono kp0 fun a z => .inl (f a z)⟩
  | .dat d .frz, ⟨v, h1, h2⟩ => ⟨v, es.trans h1, h2.weak f⟩
  | .dat d .own, ⟨a, h0, h1, h2⟩ => ⟨a, ea.trans h0, es.trans h1, h2.weak f⟩
  | .dat d .par, ⟨a, h0, hb, h1, h2⟩ => ⟨a, ea.trans h0, hb, es.trans h1, h2.weak f⟩
def Npar (s : Sl) : Prop := ∀ d, s ≠ .dat d .par
theorem bpar_put {i : Nat} {s : Sl} (R : Rep G Z B σ H ρ A) (hp : Npar (look ρ i)) : ∀ j a, B j = some a → ∃ d, look (put ρ i s) j = .dat d .par := fun j a e => by
  obtain ⟨d, h⟩ := R.bpar j a e
  by_cases q : j = i
  · subst q; exact absurd h (hp d)
  · exact ⟨d, by rw [look_put_ne q]; exact h⟩
/-- a slot is set to a datum -/
theorem Rep.setF {d : PyData} {i : Nat} (R : Rep G Z B σ H ρ A) (hp : Npar (look ρ i)) (hv : Fz (Oo Z A) H v d) : Rep G Z B (σ.set i (some v)) H (put ρ i (.dat d .frz)) (cut A i) := by
  refine ⟨by rw [put_len, List.length_set, R.len], fun j => ?_, fun j k a e f => R.inj j k a (cut_some e).2 (cut_some f).2, fun j a e => R.apart j a (cut_some e).2, R.zin, fun j a e => R.ain j a (cut_some e).2, bpar_put R hp, R.tab⟩
  by_cases e : j = i
  · subst e
    by_cases l : j < ρ.length
    · rw [look_put_same l]
      refine ⟨v, ?_, hv.weak oo_cut⟩
      rw [List.getElem?_set, if_pos rfl, if_pos (by rw [← R.len]; exact l)]
    · rw [look_put, if_neg (fun z => l z.2)]
      have : look ρ j = .non := Classical.byContradiction fun z => l (look_lt z)
      rw [this]; trivial
  · rw [look_put_ne e]
    exact (R.at_ j).other oo_cut (cut_ne e) (get_set e)
/-- the slots' numbers of a list of names forgotten -/
theorem Rep.setN {i : Nat} {o : Option V} (R : Rep G Z B σ H ρ A) (hp : Npar (look ρ i)) : Rep G Z B (σ.set i o) H (put ρ i .non) (cut A i) := by
  refine ⟨by rw [put_len, List.length_set, R.len], fun j => ?_, fun j k a e f => R.inj j k a (cut_some e).2 (cut_some f).2, fun j a e => R.apart j a (cut_some e).2, R.zin, fun j a e => R.ain j a (cut_some e).2, bpar_put R hp, R.tab⟩
  by_cases e : j = i
  · subst e
    by_cases l : j < ρ.length
    · rw [look_put_same l]; trivial
    · rw [look_put, if_neg (fun z => l z.2)]
      have : look ρ j = .non := Classical.byContradiction fun z => l (look_lt z)
      rw [this]; trivial
  · rw [look_put_ne e]
    exact (R.at_ j).other oo_cut (cut_ne e) (get_set e)
theorem oo_new {i : Nat} {a : Addr} : ∀ b, Oo Z (cnew A i a) b → Oo (Zx Z a) A b := fun b z => z.elim (fun z => .inl (.inl z)) fun ⟨j, e⟩ => by
  unfold cnew at e
  by_cases q : j = i
  · rw [if_pos q] at e; cases e; exact .inl (.inr rfl)
  · rw [if_neg q] at e; exact .inr ⟨j, e⟩
theorem Rep.setO {d : PyData} {i : Nat} {a : Addr} (R : Rep G (Zx Z a) B σ H ρ A) (hp : Npar (look ρ i)) (hz : ¬ Z a) (ho : Ob (Oo (Zx Z a) A) H a d) : Rep G Z B (σ.set i (some (.ref a))) H (put ρ i (.dat d .own)) (cnew A i a) := by
  have cs : ∀ {j b}, cnew A i a j = some b → (j = i ∧ b = a) ∨ (j ≠ i ∧ A j = some b) := fun {j b} e => by
    unfold cnew at e
    by_cases q : j = i
    · rw [if_pos q] at e; cases e; exact .inl ⟨q, rfl⟩
    · rw [if_neg q] at e; exact .inr ⟨q, e⟩
  refine ⟨by rw [put_len, List.length_set, R.len], fun j => ?_, fun j k b e f => ?_, fun j b e z => ?_, fun b z => R.zin b (.inl z), fun j b e => ?_, bpar_put R hp, R.tab⟩
  · by_cases e : j = i
    · subst e
      by_cases l : j < ρ.length
      · rw [look_put_same l]
        refine ⟨a, by unfold cnew; rw [if_pos rfl], ?_, ho.weak oo_new⟩
        rw [List.getElem?_set, if_pos rfl, if_pos (by rw [← R.len]; exact l)]
      · rw [look_put, if_neg (fun z => l z.2)]
        have : look ρ j = .non := Classical.byContradiction fun z => l (look_lt z)
        rw [this]; trivial
    · rw [look_put_ne e]
      exact (R.at_ j).other oo_new (by unfold cnew; rw [if_neg e]) (get_set e)
  · rcases cs e with ⟨h1, h2⟩ | ⟨h1, h2⟩
    · rcases cs f with ⟨h3, h4⟩ | ⟨h3, h4⟩
      · rw [h1, h3]
      · exact absurd (by rw [h2]; exact .inr rfl) (R.apart k b h4)
    · rcases cs f with ⟨h3, h4⟩ | ⟨h3, h4⟩
      · exact absurd (by rw [h4]; exact .inr rfl) (R.apart j b h2)
      · exact R.inj j k b h2 h4
  · rcases cs e with ⟨h1, h2⟩ | ⟨h1, h2⟩
    · rw [h2] at z; exact hz z
    · exact R.apart j b h2 (.inl z)
  · rcases cs e with ⟨h1, h2⟩ | ⟨h1, h2⟩
    · rw [h2]; exact R.zin a (.inr rfl)
    · exact R.ain j b h2
theorem evo_new {i : Nat} {a : Addr} (n : H a = none) (x : Evo A H A1 H1) : Evo A H (cnew A1 i a) H1 := ⟨x.keep, x.dom, fun j b e => by
  unfold cnew at e
  by_cases q : j = i
  · rw [if_pos q] at e; cases e; exact .inr n
  · rw [if_neg q] at e; exact x.sub j b e⟩
/-- slot i gives up its list -/
theorem Rep.freeze {d : PyData} {i : Nat} (R : Rep G Z B σ H ρ A) (l : look ρ i = .dat d .own) : Rep G Z B σ H (put ρ i (.dat d .frz)) (cut A i) ∧ ∀ v, σ[i]? = some (some v) → Fz (Oo Z (cut A i)) H v d := by
  have q := R.at_ i
  rw [l] at q
  obtain ⟨a, h0, h1, h2⟩ := q
  have hn : ¬ Oo Z (cut A i) a := fun z => z.elim (R.apart i a h0) fun ⟨j, e⟩ => (cut_some e).1 (R.inj j i a (cut_some e).2 h0)
  have hf : Fz (Oo Z (cut A i)) H (.ref a) d := h2.fz oo_cut hn
  refine ⟨⟨by rw [put_len, R.len], fun j => ?_, fun j k a e f => R.inj j k a (cut_some e).2 (cut_some f).2, fun j a e => R.apart j a (cut_some e).2, R.zin, fun j a e => R.ain j a (cut_some e).2, bpar_put R (fun c e => by rw [l] at e; cases e), R.tab⟩, fun v hv => by rw [h1] at hv; cases hv; exact hf⟩
  by_cases e : j = i
  · subst e
    rw [look_put_same (look_lt (by rw [l]; simp))]
    exact ⟨_, h1, hf⟩
  · rw [look_put_ne e]
    exact (R.at_ j).other oo_cut (cut_ne e) rfl
/-- slot i's list is written -/
theorem Rep.write {ds ds' : List PyData} {k : Kd} {xs' : List V} {i : Nat} {a : Addr} (R : Rep G Z B σ H ρ A) (l : look ρ i = .dat (.list ds) k) (hk : k ≠ .frz) (hs : σ[i]? = some (some (.ref a))) (f : FzA (Oo Z A) H xs' ds') :
    A i = some a ∧ Rep G Z B σ (upd H a (.lst xs')) (put ρ i (.dat (.list ds') k)) A ∧ Evo A H A (upd H a (.lst xs')) := by
  have q := R.at_ i
  rw [l] at q
  have ha : A i = some a ∧ (k = .par → B i = some a) := by
    cases k with
    | frz => exact absurd rfl hk
    | own => obtain ⟨b, h0, h1, _⟩ := q; rw [hs] at h1; cases h1; exact ⟨h0, nofun⟩
    | par => obtain ⟨b, h0, hb, h1, _⟩ := q; rw [hs] at h1; cases h1; exact ⟨h0, fun _ => hb⟩
  have hl0 : ∃ xs, H a = some (.lst xs) := by
    cases k with
    | frz => exact absurd rfl hk
    | own => obtain ⟨b, h0, h1, h2, h3, _⟩ := q; rw [hs] at h1; cases h1; exact ⟨_, h3⟩
    | par => obtain ⟨b, h0, hb, h1, h2, h3, _⟩ := q; rw [hs] at h1; cases h1; exact ⟨_, h3⟩
  have kp : ∀ b o, H b = some o → ¬ Oo Z A b → Kp (upd H a (.lst xs')) b o := fun b o e n => .of (by
    rw [upd_ne (fun z => n (by rw [z]; exact .inr ⟨i, ha.1⟩))]; exact e)
  have dm : ∀ b, H b ≠ none → upd H a (.lst xs') b ≠ none := fun b n => by
    by_cases e : b = a
    · rw [e, upd_same]; simp
    · rw [upd_ne e]; exact n
  have f' : FzA (Oo Z A) (upd H a (.lst xs')) xs' ds' := f.mono kp (fun _ z => .inl z) ds'
  refine ⟨ha.1, ⟨by rw [put_len, R.len], fun j => ?_, R.inj, R.apart, fun b z => dm b (R.zin b z), fun j b e => dm b (R.ain j b e), fun j b e => ?_, R.tab.upd hl0.choose_spec ntc_lst⟩, ⟨fun b o e n => .of (by rw [upd_ne (fun z => n i (by rw [z]; exact ha.1))]; exact e), fun b e => ?_, fun j b e => .inl ⟨j, e⟩⟩⟩
  · by_cases e : j = i
    · subst e
      rw [look_put_same (look_lt (by rw [l]; simp))]
      cases k with
      | frz => exact absurd rfl hk
      | own => exact ⟨a, ha.1, hs, xs', upd_same, f'⟩
      | par => exact ⟨a, ha.1, ha.2 rfl, hs, xs', upd_same, f'⟩
    · rw [look_put_ne e]
      have qj := R.at_ j
      cases lj : look ρ j with
      | non => trivial
      | scr ns =>
        rw [lj] at qj
        obtain ⟨b, h1, h2⟩ := qj
        exact ⟨b, h1, h2.mono kp fun _ z => .inl z⟩
      | dat c kc =>
        rw [lj] at qj
        have ne : ∀ b, A j = some b → b ≠ a := fun b e1 e2 => e (R.inj j i a (by rw [← e2]; exact e1) ha.1)
        cases kc with
        | frz => obtain ⟨w, h1, h2⟩ := qj; exact ⟨w, h1, h2.mono kp (fun _ z => .inl z) c⟩
        | own => obtain ⟨b, h0, h1, h2⟩ := qj; exact ⟨b, h0, h1, h2.mono kp (fun _ z => .inl z) fun o eo => .of (by rw [upd_ne (ne b h0)]; exact eo)⟩
        | par => obtain ⟨b, h0, hb, h1, h2⟩ := qj; exact ⟨b, h0, hb, h1, h2.mono kp (fun _ z => .inl z) fun o eo => .of (by rw [upd_ne (ne b h0)]; exact eo)⟩
  · obtain ⟨c, h⟩ := R.bpar j b e
    by_cases q : j = i
    · subst q
      rw [l] at h
      injection h with h1 h2
      exact ⟨.list ds', by rw [look_put_same (look_lt (by rw [l]; simp)), h2]⟩
    · exact ⟨c, by rw [look_put_ne q]; exact h⟩
  · cases qh : H b with
    | none => rfl
    | some o => exact absurd e (dm b (by rw [qh]; simp))

/-! ### a value that goes elsewhere -/
def escR (ρ : Ev) : RV → Ro PyData
  | .shr d => .ok d ρ
  | .tmp d => .ok d ρ
  | .var i => match look ρ i with
    | .dat d .frz => .ok d ρ
    | .dat d .own => .ok d (put ρ i (.dat d .frz))
    | _ => .bad
def eEsc (a : EvE) : EvE := fun ρ => (a ρ).bind fun r ρ1 => (escR ρ1 r).bind fun d ρ2 => .ok (.shr d) ρ2
theorem esc_ok (R : Rep G Z B σ H ρ A) (h : HV Z A H σ v r) {d : PyData} {ρ1 : Ev} (e : escR ρ r = .ok d ρ1) : ∃ A1, Rep G Z B σ H ρ1 A1 ∧ Evo A H A1 H ∧ Fz (Oo Z A1) H v d := by
  cases r with
  | shr c => cases e; exact ⟨A, R, .refl, h⟩
  | tmp c => cases e; exact ⟨A, R, .refl, h⟩
  | var i =>
    unfold escR at e
    have hv : σ[i]? = some (some v) := h
    cases l : look ρ i with
    | non => simp [l] at e
    | scr ns => simp [l] at e
    | dat c k =>
      cases k with
      | frz =>
        simp [l] at e
        obtain ⟨rfl, rfl⟩ := e
        have q := R.at_ i
        rw [l] at q
        obtain ⟨w, h1, h2⟩ := q
        rw [hv] at h1; cases h1
        exact ⟨A, R, .refl, h2⟩
      | own =>
        simp [l] at e
        obtain ⟨rfl, rfl⟩ := e
        have q := R.freeze l
        exact ⟨_, q.1, evo_cut, q.2 v hv⟩
      | par => simp [l] at e
theorem escR_ne {x : Ex} {ρ' : Ev} : escR ρ r ≠ .exc x ρ' := by
  cases r with
  | shr c => simp [escR]
  | tmp c => simp [escR]
  | var i =>
    unfold escR
    cases l : look ρ i with
    | non => simp [l]
    | scr ns => simp [l]
    | dat c k => cases k <;> simp [l]
theorem de_esc {e : Expr} {ea : EvE} (ha : DE X G W e ea) : DE X G W e (eEsc ea) := ⟨PE_imp ha.pe fun σ H Q ⟨Z, B, ρ, A, R, d⟩ => by
  refine dE_bind shift_E R d fun r1 ρ1 v H1 A1 R1 x1 f1 d1 => ?_
  cases e : escR ρ1 r1 with
  | ok c ρ2 =>
    rw [e] at d1
    obtain ⟨A2, R2, x2, f2⟩ := esc_ok R1 f1 e
    exact d1 v H1 A2 R2 x2 f2
  | exc y ρ2 => exact absurd e escR_ne
  | bad => rw [e] at d1; exact d1.elim⟩

/-! ### displays -/
def lim : Nat := 16777216
theorem lim_eq : lim = sizeLine := sizeLine_eq.symm
def shrs : List RV → Option (List PyData)
  | [] => some []
  | .shr d :: r => (shrs r).map (d :: ·)
  | .tmp d :: r => (shrs r).map (d :: ·)
  | .var _ :: _ => none
theorem HVs.shr : ∀ {vs : List V} {rs : List RV} {ds : List PyData}, HVs Z A H σ vs rs → shrs rs = some ds → FzA (Oo Z A) H vs ds
  | _, _, _, .nil, e => by cases e; exact .nil
  | _, _, _, .cons (r := r) (rs := rs) h t, e => by
    cases r with
    | shr d =>
      unfold shrs at e
      cases q : shrs rs with
      | none => rw [q] at e; cases e
      | some ds => rw [q] at e; cases e; exact .cons h (HVs.shr t q)
    | tmp d =>
      unfold shrs at e
      cases q : shrs rs with
      | none => rw [q] at e; cases e
      | some ds => rw [q] at e; cases e; exact .cons h (HVs.shr t q)
    | var i => unfold shrs at e; cases e
def eTup (a : EvA) : EvE := fun ρ => (a ρ).bind fun rs ρ1 => match shrs rs with
  | some ds => if ds.length ≤ lim then .ok (.shr (.tuple ds)) ρ1 else .bad
  | none => .bad
def eLst (a : EvA) : EvE := fun ρ => (a ρ).bind fun rs ρ1 => match shrs rs with
  | some ds => if ds.length ≤ lim then .ok (.tmp (.list ds)) ρ1 else .bad
  | none => .bad
theorem de_tup {es : List Expr} {ea : EvA} {x1 pos} (ha : DA X G W es ea) : DE X G W (.Tuple es x1 pos) (eTup ea) := ⟨PE_imp (pe_tupT ha.pa) fun σ H Q ⟨Z, B, ρ, A, R, d⟩ => by
  refine dA_bind shift_E R d fun rs ρ1 vs H1 A1 R1 x1 f1 d1 => ?_
  cases e : shrs rs with
  | none => rw [e] at d1; exact d1.elim
  | some ds =>
    rw [e] at d1
    have f2 := f1.shr e
    by_cases hl : ds.length ≤ lim
    · simp only [if_pos hl] at d1
      refine ⟨by rw [f2.len, ← lim_eq]; exact hl, fun p o hp ho => ?_⟩
      have x2 : Ext H1 (upd H1 p (.frz o (.tup vs))) := .new hp
      refine d1 (.ref p) _ A1 (R1.ext x2) (.ext x2) (.tup (trt_new ho) (fun z => ?_) (f2.ext x2))
      exact z.elim (fun z => R1.zin p z hp) fun ⟨i, z⟩ => R1.ain i p z hp
    · simp only [if_neg hl] at d1; exact d1.elim⟩
theorem de_lst {es : List Expr} {ea : EvA} {pos : Pos} (ha : DA X G W es ea) : DE X G W (.List es pos) (eLst ea) := ⟨PE_imp (pe_lst ha.pa) fun σ H Q ⟨Z, B, ρ, A, R, d⟩ => by
  refine dA_bind shift_E R d fun rs ρ1 vs H1 A1 R1 x1 f1 d1 => ?_
  cases e : shrs rs with
  | none => rw [e] at d1; exact d1.elim
  | some ds =>
    rw [e] at d1
    have f2 := f1.shr e
    by_cases hl : ds.length ≤ lim
    · simp only [if_pos hl] at d1
      refine ⟨by rw [f2.len, ← lim_eq]; exact hl, fun p hp => ?_⟩
      exact prs_fin (p := .new ds) R1 d1 p vs H1 _ (.refl _) hp (.new hp) upd_same f2
    · simp only [if_neg hl] at d1; exact d1.elim⟩

/-! ### tests -/
abbrev EvT := Ev → Ro Bool
def pT (G : Gm) (Z : Ow) (B : Nat → Option Addr) (σ : L2.St) (Q : Bool → Hp → Prop) : PF Bool := fun H A b ρ' => ∀ H' A', Rep G Z B σ H' ρ' A' → Evo A H A' H' → Q b H'
theorem shift_T {Q : Bool → Hp → Prop} : Shifts (pT G Z B σ Q) := fun H A H1 A1 b ρ x h H' A' R y => h H' A' R (x.trans y)
def dT (G : Gm) (W : Wi) (ev : EvT) : TT := fun σ H Q => ∃ Z B ρ A, Rep G Z B σ H ρ A ∧ Done G W Z B σ (pT G Z B σ Q) H A (ev ρ)
structure DT (X : Cx) (G : Gm) (W : Wi) (e : Expr) (ev : EvT) : Prop where
  pt : PT X e (dT G W ev)
structure DW (X : Cx) (G : Gm) (W : Wi) (e : Expr) (ev : EvT) : Prop where
  pw : PW X e (dT G W ev)
theorem PT_imp {e : Expr} {t t' : TT} (h : PT X e t) (i : ∀ σ H Q, t' σ H Q → t σ H Q) : PT X e t' := ⟨fun pins s σ H Q I q => h.run pins s σ H Q I (i σ H Q q)⟩
theorem PW_imp {e : Expr} {t t' : TT} (h : PW X e t) (i : ∀ σ H Q, t' σ H Q → t σ H Q) : PW X e t' := ⟨fun wh pins s σ H Q I q => h.run wh pins s σ H Q I (i σ H Q q)⟩
theorem dT_bind {α : Type} {P : PF α} (sh : Shifts P) {ev : EvT} {k : Bool → Ev → Ro α} {Q' : Bool → Hp → Prop} (R : Rep G Z B σ H ρ A) (d : Done G W Z B σ P H A ((ev ρ).bind k))
    (h : ∀ b ρ1 H1 A1, Rep G Z B σ H1 ρ1 A1 → Evo A H A1 H1 → Done G W Z B σ P H1 A1 (k b ρ1) → Q' b H1) : dT G W ev σ H Q' := by
  refine ⟨Z, B, ρ, A, R, ?_⟩
  cases e : ev ρ with
  | ok b ρ1 =>
    rw [e] at d
    exact fun H' A' R' x => h b ρ1 H' A' R' x (d.shift sh x)
  | exc y ρ1 =>
    rw [e] at d
    exact d
  | bad =>
    rw [e] at d
    exact d.elim
def tV (a : EvE) : EvT := fun ρ => (a ρ).bind fun r ρ1 => match res ρ1 r with
  | some (.bool b) => .ok b ρ1
  | _ => .bad
theorem tv_ok {a : EvE} {Q : Bool → Hp → Prop} (R : Rep G Z B σ H ρ A) (d : Done G W Z B σ (pT G Z B σ Q) H A (tV a ρ)) : dE G W a σ H (fun x H1 => ∃ c, x = .bl c ∧ Q c H1) := by
  refine dE_bind shift_T R d fun r1 ρ1 v H1 A1 R1 x1 f1 d1 => ?_
  cases e : res ρ1 r1 with
  | none => rw [e] at d1; exact d1.elim
  | some c =>
    rw [e] at d1
    have h := f1.vw R1 e
    cases c with
    | bool b => exact ⟨b, h, d1 H1 A1 R1 .refl⟩
    | none => exact d1.elim
    | int _ => exact d1.elim
    | str _ => exact d1.elim
    | list _ => exact d1.elim
    | tuple _ => exact d1.elim
    | dict _ => exact d1.elim
theorem dt_val {e : Expr} {ea : EvE} (h : DE X G W e ea) (he : ∀ whole, isTrue e X.env whole = (do let v ← whole; standAt e.pos; holding [v] (truthy v)) := by intro _; rfl) : DT X G W e (tV ea) :=
  ⟨PT_imp (pt_val h.pe he) fun σ H Q ⟨Z, B, ρ, A, R, d⟩ => tv_ok R d⟩
theorem dt_cmp {op : CmpOp} {r : R2} {g : G2} {a b : Expr} {ea eb : EvE} {pos : Pos} (ho : OpR X (compareOp op) r) (hs : Op2S r g) (ha : DE X G W a ea) (hb : DE X G W b eb) (hm : behindInMarks op b = false) : DT X G W (.Compare a [op] [b] pos) (tV (eOp g ea eb)) :=
  ⟨PT_imp (pt_cmpR ho ha.pe hb.pe hm) fun σ H Q ⟨Z, B, ρ, A, R, d⟩ => by
    obtain ⟨Z', B', ρ', A', R', d'⟩ := tv_ok R d
    exact op2_ok hs d' R'⟩
def tNo (a : EvT) : EvT := fun ρ => (a ρ).bind fun b ρ1 => .ok (!b) ρ1
theorem dt_not {a : Expr} {ta : EvT} {pos : Pos} (h : DT X G W a ta) : DT X G W (.UnaryOp .Not a pos) (tNo ta) := ⟨PT_imp (pt_not h.pt) fun σ H Q ⟨Z, B, ρ, A, R, d⟩ => dT_bind shift_T R d fun b ρ1 H1 A1 R1 x1 d1 => d1 H1 A1 R1 .refl⟩
def tAnd2 (a b : EvT) : EvT := fun ρ => (a ρ).bind fun c ρ1 => if c = true then b ρ1 else .ok false ρ1
def tOr2 (a b : EvT) : EvT := fun ρ => (a ρ).bind fun c ρ1 => if c = true then .ok true ρ1 else b ρ1
theorem dw_and1 {a : Expr} {ta : EvT} {pos : Pos} (h : DT X G W a ta) : DW X G W (.BoolOp .And [a] pos) ta := ⟨pw_and1 h.pt⟩
theorem dw_or1 {a : Expr} {ta : EvT} {pos : Pos} (h : DT X G W a ta) : DW X G W (.BoolOp .Or [a] pos) ta := ⟨pw_or1 h.pt⟩
theorem dT_of {ev : EvT} {Q : Bool → Hp → Prop} (R : Rep G Z B σ H ρ A) (d : Done G W Z B σ (pT G Z B σ Q) H A (ev ρ)) : dT G W ev σ H Q := ⟨Z, B, ρ, A, R, d⟩
theorem dw_and {a b : Expr} {rest : List Expr} {ta tb : EvT} {pos : Pos} (h : DT X G W a ta) (h2 : DW X G W (.BoolOp .And (b :: rest) pos) tb) : DW X G W (.BoolOp .And (a :: b :: rest) pos) (tAnd2 ta tb) :=
  ⟨PW_imp (pw_and h.pt h2.pw) fun σ H Q ⟨Z, B, ρ, A, R, d⟩ => dT_bind shift_T R d fun c ρ1 H1 A1 R1 x1 d1 => by
    cases c with
    | true => exact dT_of R1 d1
    | false => exact d1 H1 A1 R1 .refl⟩
theorem dw_or {a b : Expr} {rest : List Expr} {ta tb : EvT} {pos : Pos} (h : DT X G W a ta) (h2 : DW X G W (.BoolOp .Or (b :: rest) pos) tb) : DW X G W (.BoolOp .Or (a :: b :: rest) pos) (tOr2 ta tb) :=
  ⟨PW_imp (pw_or h.pt h2.pw) fun σ H Q ⟨Z, B, ρ, A, R, d⟩ => dT_bind shift_T R d fun c ρ1 H1 A1 R1 x1 d1 => by
    cases c with
    | true => exact d1 H1 A1 R1 .refl
    | false => exact dT_of R1 d1⟩
theorem dt_w {e : Expr} {t : EvT} (h : DW X G W e t) : DT X G W e t := ⟨h.pw.pt⟩
/-! ### and, or as values; a if t else b -/
def asB (ρ : Ev) (r : RV) : Option Bool := match res ρ r with
  | some (.bool b) => some b
  | _ => none
theorem asB_ok {b : Bool} (R : Rep G Z B σ H ρ A) (f : HV Z A H σ v r) (e : asB ρ r = some b) : v = .bl b := by
  unfold asB at e
  cases q : res ρ r with
  | none => rw [q] at e; cases e
  | some c =>
    rw [q] at e
    have h := f.vw R q
    cases c with
    | bool b' => cases e; exact h
    | none => cases e
    | int _ => cases e
    | str _ => cases e
    | list _ => cases e
    | tuple _ => cases e
    | dict _ => cases e
def eAnd (a b : EvE) : EvE := fun ρ => (a ρ).bind fun r ρ1 => match asB ρ1 r with
  | some true => b ρ1
  | some false => .ok (.shr (.bool false)) ρ1
  | none => .bad
def eOr (a b : EvE) : EvE := fun ρ => (a ρ).bind fun r ρ1 => match asB ρ1 r with
  | some true => .ok (.shr (.bool true)) ρ1
  | some false => b ρ1
  | none => .bad
def eNot (a : EvE) : EvE := fun ρ => (a ρ).bind fun r ρ1 => match asB ρ1 r with
  | some b => .ok (.shr (.bool (!b))) ρ1
  | none => .bad
theorem dE_of {ev : EvE} (R : Rep G Z B σ H ρ A) (d : Done G W Z B σ (pE G Z B σ Q) H A (ev ρ)) : dE G W ev σ H Q := ⟨Z, B, ρ, A, R, d⟩
theorem de_one {op : BoolOp} {a : Expr} {ea : EvE} {pos : Pos} (h : DE X G W a ea) : DE X G W (.BoolOp op [a] pos) ea := ⟨pe_one h.pe⟩
theorem de_and {a b : Expr} {rest : List Expr} {ea eb : EvE} {pos : Pos} (h : DE X G W a ea) (h2 : DE X G W (.BoolOp .And (b :: rest) pos) eb) : DE X G W (.BoolOp .And (a :: b :: rest) pos) (eAnd ea eb) :=
  ⟨PE_imp (pe_and h.pe h2.pe) fun σ H Q ⟨Z, B, ρ, A, R, d⟩ => dE_bind shift_E R d fun r1 ρ1 v H1 A1 R1 x1 f1 d1 => by
    cases e : asB ρ1 r1 with
    | none => rw [e] at d1; exact d1.elim
    | some c =>
      rw [e] at d1
      refine ⟨c, asB_ok R1 f1 e, ?_⟩
      cases c with
      | true => exact dE_of R1 d1
      | false => exact d1 _ H1 A1 R1 .refl (.bl false)⟩
theorem de_or {a b : Expr} {rest : List Expr} {ea eb : EvE} {pos : Pos} (h : DE X G W a ea) (h2 : DE X G W (.BoolOp .Or (b :: rest) pos) eb) : DE X G W (.BoolOp .Or (a :: b :: rest) pos) (eOr ea eb) :=
  ⟨PE_imp (pe_or h.pe h2.pe) fun σ H Q ⟨Z, B, ρ, A, R, d⟩ => dE_bind shift_E R d fun r1 ρ1 v H1 A1 R1 x1 f1 d1 => by
    cases e : asB ρ1 r1 with
    | none => rw [e] at d1; exact d1.elim
    | some c =>
      rw [e] at d1
      refine ⟨c, asB_ok R1 f1 e, ?_⟩
      cases c with
      | true => exact d1 _ H1 A1 R1 .refl (.bl true)
      | false => exact dE_of R1 d1⟩
theorem de_not {a : Expr} {ea : EvE} {pos : Pos} (h : DE X G W a ea) : DE X G W (.UnaryOp .Not a pos) (eNot ea) :=
  ⟨PE_imp (pe_not h.pe) fun σ H Q ⟨Z, B, ρ, A, R, d⟩ => dE_bind shift_E R d fun r1 ρ1 v H1 A1 R1 x1 f1 d1 => by
    cases e : asB ρ1 r1 with
    | none => rw [e] at d1; exact d1.elim
    | some c =>
      rw [e] at d1
      exact ⟨c, asB_ok R1 f1 e, d1 _ H1 A1 R1 .refl (.bl _)⟩⟩
def eIf (t : EvT) (a b : EvE) : EvE := fun ρ => (t ρ).bind fun c ρ1 => if c = true then a ρ1 else b ρ1
theorem de_if {c a b : Expr} {tc : EvT} {ea eb : EvE} {pos : Pos} (hc : DT X G W c tc) (ha : DE X G W a ea) (hb : DE X G W b eb) : DE X G W (.IfExp c a b pos) (eIf tc ea eb) :=
  ⟨PE_imp (pe_ifExp hc.pt ha.pe hb.pe) fun σ H Q ⟨Z, B, ρ, A, R, d⟩ => dT_bind shift_E R d fun c ρ1 H1 A1 R1 x1 d1 => by
    cases c with
    | true => exact dE_of R1 d1
    | false => exact dE_of R1 d1⟩
end
end DL

namespace DL
open PySem L2
section
variable {X : Cx} {G : Gm} {W : Wi} {Z Z' : Ow} {B A A1 A2 : Nat → Option Addr} {σ σ1 : L2.St} {H H1 H2 : Hp} {ρ ρ1 ρ2 : Ev} {Q : VK} {v : V} {r : RV} {D D' : Ends}

/-! ### statements -/
inductive Fl where
  | nx | ret (r : RV) | brk | ct
abbrev EvS := Ev → Ro Fl
def SDn (G : Gm) (W : Wi) (Z : Ow) (B : Nat → Option Addr) (D : Ends) (H : Hp) (A : Nat → Option Addr) : Ro Fl → Prop
  | .ok .nx ρ' => ∀ σ' H' A', Rep G Z B σ' H' ρ' A' → Evo A H A' H' → D.nx σ' H'
  | .ok .brk ρ' => ∀ σ' H' A', Rep G Z B σ' H' ρ' A' → Evo A H A' H' → D.bk σ' H'
  | .ok .ct ρ' => ∀ σ' H' A', Rep G Z B σ' H' ρ' A' → Evo A H A' H' → D.ct σ' H'
  | .ok (.ret (.shr d)) ρ' => ∀ v σ' H' A', Rep G Z B σ' H' ρ' A' → Evo A H A' H' → Fz (Oo Z A') H' v d → D.rt v H'
  | .ok (.ret (.tmp d)) ρ' => ∀ a σ' H' A', Rep G (Zx Z a) B σ' H' ρ' A' → Evo A H A' H' → ¬ Z a → ((∃ j, A j = some a) ∨ H a = none) → Ob (Oo (Zx Z a) A') H' a d → D.rt (.ref a) H'
  | .ok (.ret (.var _)) _ => False
  | .exc x ρ' => ∀ cv dx σ' H' A', Rep G Z B σ' H' ρ' A' → Evo A H A' H' → ExR G (Oo Z A') H' x cv dx → W cv dx σ' H'
  | .bad => False
theorem SDn.shift (x : Evo A H A1 H1) : ∀ {r : Ro Fl}, SDn G W Z B D H A r → SDn G W Z B D H1 A1 r
  | .ok .nx ρ', h => fun σ' H' A' R y => h σ' H' A' R (x.trans y)
  | .ok .brk ρ', h => fun σ' H' A' R y => h σ' H' A' R (x.trans y)
  | .ok .ct ρ', h => fun σ' H' A' R y => h σ' H' A' R (x.trans y)
  | .ok (.ret (.shr d)) ρ', h => fun v σ' H' A' R y f => h v σ' H' A' R (x.trans y) f
  | .ok (.ret (.tmp d)) ρ', h => fun a σ' H' A' R y z n o => h a σ' H' A' R (x.trans y) z (n.elim (fun ⟨j, e⟩ => x.sub j a e) fun e => .inr (x.dom a e)) o
  | .ok (.ret (.var _)) _, h => h
  | .exc e ρ', h => fun cv dx σ' H' A' R y q => h cv dx σ' H' A' R (x.trans y) q
  | .bad, h => h
def dS (G : Gm) (W : Wi) (sv : EvS) : TS := fun D σ H => ∃ Z B ρ A, Rep G Z B σ H ρ A ∧ SDn G W Z B D H A (sv ρ)
structure DS (X : Cx) (G : Gm) (W : Wi) (st : Stmt) (sv : EvS) : Prop where
  ps : PS X st (dS G W sv)
structure DSs (X : Cx) (G : Gm) (W : Wi) (st : List Stmt) (sv : EvS) : Prop where
  pss : PSs X st (dS G W sv)
theorem PS_imp {st : Stmt} {t t' : TS} (h : PS X st t) (i : ∀ D σ H, t' D σ H → t D σ H) : PS X st t' := ⟨fun pins s σ H D I q => h.run pins s σ H D I (i D σ H q)⟩
theorem PSs_imp {st : List Stmt} {t t' : TS} (h : PSs X st t) (i : ∀ D σ H, t' D σ H → t D σ H) : PSs X st t' := ⟨fun pins s σ H D I q => h.run pins s σ H D I (i D σ H q)⟩
/-- an expression ahead of the rest of a statement -/
theorem dE_S {ev : EvE} {k : RV → Ev → Ro Fl} {Q' : VK} (R : Rep G Z B σ H ρ A) (d : SDn G W Z B D H A ((ev ρ).bind k))
    (h : ∀ r ρ1 v H1 A1, Rep G Z B σ H1 ρ1 A1 → Evo A H A1 H1 → HV Z A1 H1 σ v r → SDn G W Z B D H1 A1 (k r ρ1) → Q' v H1) : dE G W ev σ H Q' := by
  cases e : ev ρ with
  | ok r ρ1 =>
    rw [e] at d
    exact dE_ok R e fun v H' A' R' x f => h r ρ1 v H' A' R' x f (d.shift x)
  | exc y ρ1 =>
    rw [e] at d
    exact ⟨Z, B, ρ, A, R, by rw [e]; exact fun cv dx H' A' => d cv dx σ H' A'⟩
  | bad =>
    rw [e] at d
    exact d.elim
theorem dT_S {ev : EvT} {k : Bool → Ev → Ro Fl} {Q' : Bool → Hp → Prop} (R : Rep G Z B σ H ρ A) (d : SDn G W Z B D H A ((ev ρ).bind k))
    (h : ∀ b ρ1 H1 A1, Rep G Z B σ H1 ρ1 A1 → Evo A H A1 H1 → SDn G W Z B D H1 A1 (k b ρ1) → Q' b H1) : dT G W ev σ H Q' := by
  refine ⟨Z, B, ρ, A, R, ?_⟩
  cases e : ev ρ with
  | ok b ρ1 =>
    rw [e] at d
    exact fun H' A' R' x => h b ρ1 H' A' R' x (d.shift x)
  | exc y ρ1 =>
    rw [e] at d
    exact fun cv dx H' A' => d cv dx σ H' A'
  | bad =>
    rw [e] at d
    exact d.elim
theorem dA_S {ev : EvA} {k : List RV → Ev → Ro Fl} {Q' : List V → Hp → Prop} (R : Rep G Z B σ H ρ A) (d : SDn G W Z B D H A ((ev ρ).bind k))
    (h : ∀ rs ρ1 vs H1 A1, Rep G Z B σ H1 ρ1 A1 → Evo A H A1 H1 → HVs Z A1 H1 σ vs rs → SDn G W Z B D H1 A1 (k rs ρ1) → Q' vs H1) : dA G W ev σ H Q' := by
  refine ⟨Z, B, ρ, A, R, ?_⟩
  cases e : ev ρ with
  | ok rs ρ1 =>
    rw [e] at d
    exact fun vs H' A' R' x f => h rs ρ1 vs H' A' R' x f (d.shift x)
  | exc y ρ1 =>
    rw [e] at d
    exact fun cv dx H' A' => d cv dx σ H' A'
  | bad =>
    rw [e] at d
    exact d.elim
theorem dS_of {sv : EvS} (R : Rep G Z B σ H ρ A) (d : SDn G W Z B D H A (sv ρ)) : dS G W sv D σ H := ⟨Z, B, ρ, A, R, d⟩

/-! blocks -/
def sNil : EvS := fun ρ => .ok .nx ρ
def sSeq (s r : EvS) : EvS := fun ρ => (s ρ).bind fun f ρ1 => match f with
  | .nx => r ρ1
  | f => .ok f ρ1
theorem dss_nil : DSs X G W [] sNil := ⟨PSs_imp pss_nil fun D σ H ⟨Z, B, ρ, A, R, d⟩ => d σ H A R .refl⟩
theorem seq_ok {s r : EvS} (R : Rep G Z B σ H ρ A) (d : SDn G W Z B D H A (sSeq s r ρ)) : dS G W s { D with nx := dS G W r D } σ H := by
  refine ⟨Z, B, ρ, A, R, ?_⟩
  unfold sSeq at d
  cases e : s ρ with
  | ok f ρ1 =>
    rw [e] at d
    cases f with
    | nx => exact fun σ' H' A' R' x => dS_of R' (SDn.shift x d)
    | brk => exact d
    | ct => exact d
    | ret r =>
      cases r with
      | shr c => exact d
      | tmp c => exact d
      | var i => exact d
  | exc y ρ1 => rw [e] at d; exact d
  | bad => rw [e] at d; exact d
theorem dss_cons {st : Stmt} {rest : List Stmt} {s r : EvS} (h : DS X G W st s) (h2 : DSs X G W rest r) : DSs X G W (st :: rest) (sSeq s r) :=
  ⟨PSs_imp (pss_cons h.ps h2.pss) fun D σ H ⟨Z, B, ρ, A, R, d⟩ => seq_ok R d⟩
theorem dss_one {st : Stmt} {s : EvS} (h : DS X G W st s) : DSs X G W [st] s := ⟨pss_one h.ps⟩
def sPass : EvS := fun ρ => .ok .nx ρ
def sBrk : EvS := fun ρ => .ok .brk ρ
def sCt : EvS := fun ρ => .ok .ct ρ
theorem ds_pass {pos : Pos} : DS X G W (.Pass pos) sPass := ⟨PS_imp ps_pass fun D σ H ⟨Z, B, ρ, A, R, d⟩ => d σ H A R .refl⟩
theorem ds_break {pos : Pos} : DS X G W (.Break pos) sBrk := ⟨PS_imp ps_break fun D σ H ⟨Z, B, ρ, A, R, d⟩ => d σ H A R .refl⟩
theorem ds_continue {pos : Pos} : DS X G W (.Continue pos) sCt := ⟨PS_imp ps_continue fun D σ H ⟨Z, B, ρ, A, R, d⟩ => d σ H A R .refl⟩
/-- code that is not come to -/
def sNever : EvS := fun _ => .bad
theorem ds_never {st : Stmt} : DS X G W st sNever := ⟨PS_imp ps_never fun D σ H ⟨Z, B, ρ, A, R, d⟩ => d.elim⟩
def sEx (a : EvE) : EvS := fun ρ => (a ρ).bind fun _ ρ1 => .ok .nx ρ1
theorem ds_expr {e : Expr} {ea : EvE} {pos : Pos} (h : DE X G W e ea) (hs : swapsWith e none pos.line X.env = pure false := by rfl) : DS X G W (.Expr e pos) (sEx ea) :=
  ⟨PS_imp (ps_expr h.pe hs) fun D σ H ⟨Z, B, ρ, A, R, d⟩ => dE_S R d fun r ρ1 v H1 A1 R1 x1 f1 d1 => d1 σ H1 A1 R1 .refl⟩
def sIf (c : EvT) (a b : EvS) : EvS := fun ρ => (c ρ).bind fun k ρ1 => if k = true then a ρ1 else b ρ1
theorem ds_if {c : Expr} {a b : List Stmt} {tc : EvT} {sa sb : EvS} {pos : Pos} (hc : DT X G W c tc) (ha : DSs X G W a sa) (hb : DSs X G W b sb) : DS X G W (.If c a b pos) (sIf tc sa sb) :=
  ⟨PS_imp (ps_if hc.pt ha.pss hb.pss) fun D σ H ⟨Z, B, ρ, A, R, d⟩ => dT_S R d fun k ρ1 H1 A1 R1 x1 d1 => by
    cases k with
    | true => exact dS_of R1 d1
    | false => exact dS_of R1 d1⟩

/-! return -/
def retR (ρ : Ev) : RV → Ro Fl
  | .shr d => .ok (.ret (.shr d)) ρ
  | .tmp d => .ok (.ret (.tmp d)) ρ
  | .var i => match look ρ i with
    | .dat d .frz => .ok (.ret (.shr d)) ρ
    | .dat d .own => .ok (.ret (.tmp d)) (put ρ i .non)
    | _ => .bad
def sRet (a : EvE) : EvS := fun ρ => (a ρ).bind fun r ρ1 => retR ρ1 r
/-- slot i's list is nobody's -/
theorem Rep.yield {d : PyData} {i : Nat} (R : Rep G Z B σ H ρ A) (l : look ρ i = .dat d .own) : ∃ a, σ[i]? = some (some (.ref a)) ∧ A i = some a ∧ ¬ Z a ∧ Rep G (Zx Z a) B σ H (put ρ i .non) (cut A i) ∧ Ob (Oo (Zx Z a) (cut A i)) H a d := by
  have q := R.at_ i
  rw [l] at q
  obtain ⟨a, h0, h1, h2⟩ := q
  have f : ∀ b, Oo (Zx Z a) (cut A i) b → Oo Z A b := fun b z => z.elim (fun z => z.elim .inl fun e => .inr ⟨i, by rw [e]; exact h0⟩) fun ⟨j, e⟩ => .inr ⟨j, (cut_some e).2⟩
  have np : Npar (look ρ i) := fun c e => by rw [l] at e; cases e
  refine ⟨a, h1, h0, R.apart i a h0, ⟨by rw [put_len, R.len], fun j => ?_, fun j k b e g => R.inj j k b (cut_some e).2 (cut_some g).2, fun j b e z => z.elim (R.apart j b (cut_some e).2) fun z => (cut_some e).1 (R.inj j i a (by rw [← z]; exact (cut_some e).2) h0), fun b z => z.elim (R.zin b) fun z => by rw [z]; exact R.ain i a h0, fun j b e => R.ain j b (cut_some e).2, bpar_put R np, R.tab⟩, h2.weak f⟩
  by_cases e : j = i
  · subst e
    rw [look_put_same (look_lt (by rw [l]; simp))]; trivial
  · rw [look_put_ne e]
    exact (R.at_ j).other f (cut_ne e) rfl
theorem ds_ret {e : Expr} {ea : EvE} {pos : Pos} (h : DE X G W e ea) : DS X G W (.Return (some e) pos) (sRet ea) := ⟨PS_imp (ps_ret h.pe) fun D σ H ⟨Z, B, ρ, A, R, d⟩ => by
  unfold sRet at d
  cases e : ea ρ with
  | bad => rw [e] at d; exact d.elim
  | exc y ρ1 =>
    rw [e] at d
    exact ⟨Z, B, ρ, A, R, by rw [e]; exact fun cv dx H' A' => d cv dx σ H' A'⟩
  | ok r ρ1 =>
    rw [e] at d
    refine ⟨Z, B, ρ, A, R, ?_⟩
    rw [e]
    cases r with
    | shr c => exact fun v H' A' R' x f => d v σ H' A' R' x f
    | tmp c => exact fun a H' A' R' x n o => d a σ H' A' R' x (fun z => R.zin a z n) (.inr n) o
    | var i =>
      intro v H' A' R' x hv
      have d' : SDn G W Z B D H A (retR ρ1 (.var i)) := d
      unfold retR at d'
      cases l : look ρ1 i with
      | non => simp only [l] at d'; exact d'.elim
      | scr ns => simp only [l] at d'; exact d'.elim
      | dat c k =>
        cases k with
        | frz =>
          simp only [l] at d'
          have q := R'.at_ i
          rw [l] at q
          obtain ⟨w, h1, h2⟩ := q
          rw [hv] at h1; cases h1
          exact d' v σ H' A' R' x h2
        | own =>
          simp only [l] at d'
          obtain ⟨a, h1, h0, nz, R2, o⟩ := R'.yield l
          rw [hv] at h1; cases h1
          exact d' a σ H' _ R2 (x.trans evo_cut) nz (x.sub i a h0) o
        | par => simp only [l] at d'; exact d'.elim⟩
def sRetN : EvS := fun ρ => .ok (.ret (.shr .none)) ρ
theorem ds_retN {pos : Pos} : DS X G W (.Return none pos) sRetN := ⟨PS_imp ps_retN fun D σ H ⟨Z, B, ρ, A, R, d⟩ => d .non σ H A R .refl .non⟩

/-! names stored -/
def settable : Sl → Bool
  | .dat _ .par => false
  | _ => true
theorem npar_of {s : Sl} (h : settable s = true) : Npar s := fun d e => by rw [e] at h; cases h
def sSet (i : Nat) (a : EvE) : EvS := fun ρ => (a ρ).bind fun r ρ1 => if settable (look ρ1 i) = true then (match r with
  | .shr d => .ok .nx (put ρ1 i (.dat d .frz))
  | .tmp d => .ok .nx (put ρ1 i (.dat d .own))
  | .var _ => .bad) else .bad
/-- what a set leaves -/
theorem set_ok {ea : EvE} {i : Nat} (R : Rep G Z B σ H ρ A) (d : SDn G W Z B D H A (sSet i ea ρ)) : dE G W ea σ H (fun x H1 => D.nx (σ.set i (some x)) H1) := by
  unfold sSet at d
  cases e : ea ρ with
  | bad => rw [e] at d; exact d.elim
  | exc y ρ1 =>
    rw [e] at d
    exact ⟨Z, B, ρ, A, R, by rw [e]; exact fun cv dx H' A' => d cv dx σ H' A'⟩
  | ok r ρ1 =>
    rw [e] at d
    refine ⟨Z, B, ρ, A, R, ?_⟩
    rw [e]
    by_cases hs : settable (look ρ1 i) = true
    · simp only [Ro.bind, if_pos hs] at d
      have np := npar_of hs
      cases r with
      | shr c => exact fun v H' A' R' x f => d _ H' _ (R'.setF np f) (x.trans evo_cut)
      | tmp c => exact fun a H' A' R' x n o => d _ H' _ (R'.setO np (fun z => R.zin a z n) o) (evo_new n x)
      | var j => exact d.elim
    · simp only [Ro.bind, if_neg hs] at d; exact d.elim
theorem ds_set {i : Nat} {x : Str} {e : Expr} {ea : EvE} {pos pos' : Pos} (hN : X.N.Nodup) (hi : X.N[i]? = some x) (hx : Loc X.env.scope x) (he : DE X G W e ea) (hs : swapsWith e (some (.Name x pos')) pos.line X.env = pure false := by rfl) (hf : X.fn x = true ∨ X.env.scope.names.lookup x = some .local := by first | exact .inl rfl | exact .inr rfl | assumption) :
    DS X G W (.Assign [.Name x pos'] e pos) (sSet i ea) := ⟨PS_imp (ps_set hN hi hx he.pe hs hf) fun D σ H ⟨Z, B, ρ, A, R, d⟩ => set_ok R d⟩

/-! targets -/
abbrev EvG := PyData → Ev → Option Ev
def Agr (ws : List Nat) (σ σ' : L2.St) : Prop := σ'.length = σ.length ∧ ∀ i, i ∉ ws → σ'[i]? = σ[i]?
/-- a datum; or a pair that was just laid and goes at once -/
def FzU (U : Bool) (O : Ow) (H : Hp) (v : V) (d : PyData) : Prop := Fz O H v d ∨ (U = true ∧ ∃ a xs ds, v = .ref a ∧ d = .tuple ds ∧ H a = some (.tup xs) ∧ FzA O H xs ds)
def dG (G : Gm) (U : Bool) (ws : List Nat) (gv : EvG) : TG := fun v σ H Q => ∃ Z B ρ A d ρ', Rep G Z B σ H ρ A ∧ FzU U (Oo Z A) H v d ∧ gv d ρ = some ρ' ∧ ∀ σ' A', Rep G Z B σ' H ρ' A' → Evo A H A' H → Agr ws σ σ' → Q σ' H
structure DG (X : Cx) (G : Gm) (U : Bool) (e : Expr) (ws : List Nat) (gv : EvG) : Prop where
  pg : PG X e (dG G U ws gv)
theorem PG_imp {e : Expr} {t t' : TG} (h : PG X e t) (i : ∀ v σ H Q, t' v σ H Q → t v σ H Q) : PG X e t' := ⟨fun pins s σ H v u Q I r q => h.run pins s σ H v u Q I r (i v σ H Q q)⟩
def gN (i : Nat) : EvG := fun d ρ => if settable (look ρ i) = true then some (put ρ i (.dat d .frz)) else none
theorem agr_set {i : Nat} {o : Option V} : Agr [i] σ (σ.set i o) := ⟨List.length_set, fun j h => get_set fun e => h (by rw [e]; exact List.mem_singleton_self _)⟩
theorem dg_name {i : Nat} {x : Str} {pos : Pos} (hN : X.N.Nodup) (hi : X.N[i]? = some x) (hx : Loc X.env.scope x) (hf : X.fn x = true ∨ X.env.scope.names.lookup x = some .local := by first | exact .inl rfl | exact .inr rfl | assumption) : DG X G false (.Name x pos) [i] (gN i) :=
  ⟨PG_imp (pg_name hN hi hx hf) fun v σ H Q ⟨Z, B, ρ, A, d, ρ', R, f, e, k⟩ => by
    have f : Fz (Oo Z A) H v d := f.elim id fun z => nomatch z.1
    unfold gN at e
    by_cases hs : settable (look ρ i) = true
    · rw [if_pos hs] at e; cases e
      exact k _ _ (R.setF (npar_of hs) f) evo_cut agr_set
    · rw [if_neg hs] at e; cases e⟩
abbrev EvGs := List PyData → Ev → Option Ev
def dGs (G : Gm) (ws : List Nat) (gv : EvGs) : TGs := fun vs σ H Q => ∃ Z B ρ A ds ρ', Rep G Z B σ H ρ A ∧ FzA (Oo Z A) H vs ds ∧ gv ds ρ = some ρ' ∧ ∀ σ' A', Rep G Z B σ' H ρ' A' → Evo A H A' H → Agr ws σ σ' → Q σ' H
structure DGs (X : Cx) (G : Gm) (e : List Expr) (ws : List Nat) (gv : EvGs) : Prop where
  pg : PGs X e (dGs G ws gv)
theorem PGs_imp {e : List Expr} {t t' : TGs} (h : PGs X e t) (i : ∀ v σ H Q, t' v σ H Q → t v σ H Q) : PGs X e t' := ⟨fun pins s σ H v u Q I r q => h.run pins s σ H v u Q I r (i v σ H Q q)⟩
def gNl : EvGs := fun ds ρ => match ds with
  | [] => some ρ
  | _ => none
def gCs (g : EvG) (h : EvGs) : EvGs := fun ds ρ => match ds with
  | d :: r => match g d ρ with
    | some ρ1 => h r ρ1
    | none => none
  | [] => none
theorem Agr.refl (ws : List Nat) : Agr ws σ σ := ⟨rfl, fun _ _ => rfl⟩
theorem dgs_nil : DGs X G [] [] gNl := ⟨PGs_imp pgs_nil fun vs σ H Q ⟨Z, B, ρ, A, ds, ρ', R, f, e, k⟩ => by
  cases f with
  | nil => cases e; exact ⟨rfl, k σ A R .refl (.refl _)⟩
  | cons _ _ => cases e⟩
theorem dgs_cons {e : Expr} {es : List Expr} {ws us : List Nat} {g : EvG} {h : EvGs} (h1 : DG X G false e ws g) (h2 : DGs X G es us h)
    (hs : (assignEach (e :: es) X.env).map (·.2) = assign e X.env :: (assignEach es X.env).map (·.2) := by rfl) : DGs X G (e :: es) (ws ++ us) (gCs g h) :=
  ⟨PGs_imp (pgs_cons h1.pg h2.pg hs) fun vs σ H Q ⟨Z, B, ρ, A, ds, ρ', R, f, e, k⟩ => by
    cases f with
    | nil => cases e
    | @cons v vr d dr f fr =>
      unfold gCs at e
      cases q : g d ρ with
      | none => simp only [q] at e; cases e
      | some ρ1 =>
        simp only [q] at e
        refine ⟨v, vr, rfl, Z, B, ρ, A, d, ρ1, R, .inl f, q, fun σ1 A1 R1 x1 g1 => ⟨Z, B, ρ1, A1, dr, ρ', R1, x1.fzA fr, e, fun σ2 A2 R2 x2 g2 => k σ2 A2 R2 (x1.trans x2) ⟨g2.1.trans g1.1, fun i hi => ?_⟩⟩⟩
        exact (g2.2 i fun z => hi (List.mem_append_right _ z)).trans (g1.2 i fun z => hi (List.mem_append_left _ z))⟩
def gT (n : Nat) (h : EvGs) : EvG := fun d ρ => match d with
  | .tuple ds => if ds.length = n then h ds ρ else none
  | _ => none
theorem dg_tup {U : Bool} {es : List Expr} {k n : Nat} {ws : List Nat} {h : EvGs} {pos : Pos} (hc : X.calm = true) (hg : DGs X G es ws h)
    (hn : (assignEach es X.env).length = n := by rfl) (hst : (assignEach es X.env).findIdx? (·.1) = none := by rfl) : DG X G U (.Tuple es k pos) ws (gT n h) :=
  ⟨PG_imp (pg_tup hc hg.pg hn hst) fun v σ H Q ⟨Z, B, ρ, A, d, ρ', R, f, e, k⟩ => by
    cases d with
    | tuple ds =>
      have f : ∃ a xs, v = .ref a ∧ SqT X.K H a xs ∧ FzA (Oo Z A) H xs ds := by
        rcases f with f | ⟨_, a, xs, ds', rfl, e1, ha, fa⟩
        · cases f with
          | tup ha hO fa => exact ⟨_, _, rfl, ha.sq, fa⟩
        · cases e1; exact ⟨a, xs, rfl, .of ha, fa⟩
      obtain ⟨a, xs, rfl, ha, fa⟩ := f
      unfold gT at e
      by_cases hl : ds.length = n
      · simp only [if_pos hl] at e
        exact ⟨_, _, rfl, ha, by rw [fa.len]; exact hl, Z, B, ρ, A, ds, ρ', R, fa, e, k⟩
      · simp only [if_neg hl] at e; cases e
    | none => cases e
    | bool _ => cases e
    | int _ => cases e
    | str _ => cases e
    | list _ => cases e
    | dict _ => cases e⟩
def sTo (a : EvE) (g : EvG) : EvS := fun ρ => (a ρ).bind fun r ρ1 => (escR ρ1 r).bind fun d ρ2 => match g d ρ2 with
  | some ρ3 => .ok .nx ρ3
  | none => .bad
theorem ds_to {tg e : Expr} {ea : EvE} {ws : List Nat} {g : EvG} {pos : Pos} (he : DE X G W e ea) (hg : DG X G false tg ws g) (hs : swapsWithSole [tg] e pos.line X.env = pure false := by rfl) (hw : swappedStores [tg] e X.env = pure none := by rfl)
    (h1 : (assignEach [tg] X.env).map (·.2) = [assign tg X.env] := by rfl) : DS X G W (.Assign [tg] e pos) (sTo ea g) :=
  ⟨PS_imp (ps_asg he.pe hg.pg hs hw h1) fun D σ H ⟨Z, B, ρ, A, R, d⟩ => dE_S R d fun r ρ1 v H1 A1 R1 x1 f1 d1 => by
    cases e : escR ρ1 r with
    | bad => rw [e] at d1; exact d1.elim
    | exc y ρ2 => exact absurd e escR_ne
    | ok c ρ2 =>
      rw [e] at d1
      obtain ⟨A2, R2, x2, f2⟩ := esc_ok R1 f1 e
      simp only [Ro.bind] at d1
      cases q : g c ρ2 with
      | none => simp only [q] at d1; exact d1.elim
      | some ρ3 =>
        simp only [q] at d1
        exact ⟨Z, B, ρ2, A2, c, ρ3, R2, .inl f2, q, fun σ' A' R' x' _ => d1 σ' H1 A' R' (x2.trans x')⟩⟩

/-! what is walked -/
abbrev EvI := Ev → Ro (List PyData)
def ItOk (U : Bool) (Z : Ow) (J : It) (its : List PyData) (A : Nat → Option Addr) (H : Hp) : Prop := ∀ Z' A1 H1, (∀ a, Z' a → Z a ∨ H a = none) → (∀ a, Oo Z' A1 a → H1 a ≠ none) → Evo A H A1 H1 →
  (∀ i, i < its.length → J.go i H1) ∧ (∀ i, its.length ≤ i → J.stop i H1) ∧ ∀ i x H2, i < its.length → J.yld i H1 x H2 → Ext H1 H2 ∧ ∃ d, its[i]? = some d ∧ FzU U (Oo Z' A1) H2 x d
theorem Evo.fzA' {Z' : Ow} (x : Evo A H A1 H1) (f : ∀ a, Z' a → Z a ∨ H a = none) {v : List V} {d : List PyData} (h : FzA (Oo Z A) H v d) : FzA (Oo Z' A1) H1 v d :=
  h.mono (fun a o e n => x.keep a o e fun i z => n (.inr ⟨i, z⟩)) (fun a z => z.elim (fun z => (f a z).elim (fun z => .inl (.inl z)) .inr) fun ⟨i, z⟩ => (x.sub i a z).elim (fun w => .inl (.inr w)) .inr) d
def pI (G : Gm) (U : Bool) (Z : Ow) (B : Nat → Option Addr) (σ : L2.St) (R : It → Hp → Prop) : PF (List PyData) := fun H A its ρ' => ∀ J H' A', Rep G Z B σ H' ρ' A' → Evo A H A' H' → ItOk U Z J its A' H' → R J H'
theorem shift_I {U : Bool} {R : It → Hp → Prop} : Shifts (pI G U Z B σ R) := fun H A H1 A1 its ρ x h J H' A' R' y => h J H' A' R' (x.trans y)
def dI (G : Gm) (W : Wi) (U : Bool) (iv : EvI) : TI := fun σ H R => ∃ Z B ρ A, Rep G Z B σ H ρ A ∧ Done G W Z B σ (pI G U Z B σ R) H A (iv ρ)
structure DI (X : Cx) (G : Gm) (W : Wi) (U : Bool) (tg e : Expr) (iv : EvI) : Prop where
  pi : PI X tg e (dI G W U iv)
theorem itok_list {K : PySem.W.Frag} {a : Addr} {xs : List V} {ds : List PyData} (e : H a = some (.lst xs)) (n : ¬ Oo Z A a) (f : FzA (Oo Z A) H xs ds) : ItOk false Z (Itl K a) ds A H := fun Z' A1 H1 fz th x => by
  have e1 : SqL K H1 a xs := .of (x.keep a _ e fun i z => n (.inr ⟨i, z⟩))
  have f1 := x.fzA' fz f
  refine ⟨fun i hi => ?_, fun i hi => ⟨xs, e1, by rw [f.len]; exact hi⟩, fun i y H2 hi ⟨h, g⟩ => ?_⟩
  · exact ⟨xs, xs[i]'(by rw [f.len]; exact hi), e1, List.getElem?_eq_getElem _⟩
  · subst h
    obtain ⟨w, h1, h2⟩ := f1.get (List.getElem?_eq_getElem hi)
    rw [g xs e1] at h1; cases h1
    exact ⟨.refl _, _, List.getElem?_eq_getElem hi, .inl h2⟩
theorem itok_tup {K : PySem.W.Frag} {a : Addr} {xs : List V} {ds : List PyData} (e : TrT H a xs) (n : ¬ Oo Z A a) (f : FzA (Oo Z A) H xs ds) : ItOk false Z (Itt K a) ds A H := fun Z' A1 H1 fz th x => by
  have e1 : SqT K H1 a xs := (e.keep fun o eo => x.keep a o eo fun i z => n (.inr ⟨i, z⟩)).sq
  have f1 := x.fzA' fz f
  refine ⟨fun i hi => ?_, fun i hi => ⟨xs, e1, by rw [f.len]; exact hi⟩, fun i y H2 hi ⟨h, g⟩ => ?_⟩
  · exact ⟨xs, xs[i]'(by rw [f.len]; exact hi), e1, List.getElem?_eq_getElem _⟩
  · subst h
    obtain ⟨w, h1, h2⟩ := f1.get (List.getElem?_eq_getElem hi)
    rw [g xs e1] at h1; cases h1
    exact ⟨.refl _, _, List.getElem?_eq_getElem hi, .inl h2⟩
def intsOf (lo : Int) (n : Nat) : List PyData := (List.range n).map fun i : Nat => .int (lo + (i : Int))
theorem intsOf_len (lo : Int) (n : Nat) : (intsOf lo n).length = n := by unfold intsOf; simp
theorem intsOf_get {lo : Int} {n i : Nat} (h : i < n) : (intsOf lo n)[i]? = some (.int (lo + (i : Int))) := by
  unfold intsOf
  rw [List.getElem?_map, List.getElem?_range h]; rfl
theorem itok_range {lo : Int} {n : Nat} : ItOk false Z (Itr lo n) (intsOf lo n) A H := fun Z' A1 H1 fz th x => by
  rw [intsOf_len]
  refine ⟨fun i hi => hi, fun i hi => hi, fun i y H2 hi ⟨h, g⟩ => ?_⟩
  subst h; subst g
  exact ⟨.refl _, _, intsOf_get hi, .inl (.int _)⟩
/-- a list's or a tuple's items -/
def iSeq (a : EvE) : EvI := fun ρ => (a ρ).bind fun r ρ1 => (escR ρ1 r).bind fun d ρ2 => match d with
  | .list ds => .ok ds ρ2
  | .tuple ds => .ok ds ρ2
  | _ => .bad
theorem di_seq {tg e : Expr} {ea : EvE} (he : DE X G W e ea) : DI X G W false tg e (iSeq ea) := by
  refine ⟨⟨fun pins s σ H R I h => ?_⟩⟩
  obtain ⟨Z, B, ρ, A, R0, d⟩ := h
  unfold iSeq at d
  have exc : ∀ {y ρ1}, ea ρ = .exc y ρ1 → dI G W false (iSeq ea) σ H R → dE G W ea σ H (fun x H1 => ∃ a, x = .ref a ∧ (∃ xs, SqL X.K H1 a xs) ∧ R (Itl X.K a) H1) := fun {y ρ1} e h => ⟨Z, B, ρ, A, R0, by rw [e] at d ⊢; exact d⟩
  cases e : ea ρ with
  | bad => rw [e] at d; exact d.elim
  | exc y ρ1 => exact (pi_list he.pe).run pins s σ H R I (exc e ⟨Z, B, ρ, A, R0, d⟩)
  | ok r ρ1 =>
    rw [e] at d
    simp only [Ro.bind] at d
    cases q : escR ρ1 r with
    | bad => rw [q] at d; exact d.elim
    | exc y ρ2 => exact absurd q escR_ne
    | ok c ρ2 =>
      rw [q] at d
      cases c with
      | list ds =>
        refine (pi_list he.pe).run pins s σ H R I (dE_ok R0 e fun v H1 A1 R1 x1 f1 => ?_)
        obtain ⟨A2, R2, x2, f2⟩ := esc_ok R1 f1 q
        cases f2 with
        | lst e1 n1 g1 => exact ⟨_, rfl, ⟨_, .of e1⟩, d _ H1 A2 R2 (x1.trans x2) (itok_list e1 n1 g1)⟩
      | tuple ds =>
        refine (pi_tup he.pe).run pins s σ H R I (dE_ok R0 e fun v H1 A1 R1 x1 f1 => ?_)
        obtain ⟨A2, R2, x2, f2⟩ := esc_ok R1 f1 q
        cases f2 with
        | tup e1 n1 g1 => exact ⟨_, rfl, ⟨_, e1.sq⟩, d _ H1 A2 R2 (x1.trans x2) (itok_tup e1 n1 g1)⟩
      | none => exact d.elim
      | bool _ => exact d.elim
      | int _ => exact d.elim
      | str _ => exact d.elim
      | dict _ => exact d.elim
def rlim : Int := 4611686018427387904
def iR1 (a : EvE) : EvI := fun ρ => (a ρ).bind fun r ρ1 => match res ρ1 r with
  | some (.int j) => if -rlim ≤ j ∧ j < rlim then .ok (intsOf 0 j.toNat) ρ1 else .bad
  | _ => .bad
theorem di_range1 {tg a : Expr} {ea : EvE} {p pos : Pos} (hg : Gl X "range") (hm : X.mg "range" = none) (ha : DE X G W a ea) (hs : starEach [a] X.env = [(false, eval a X.env)] := by rfl) (hs' : starEach [a] X.env = (false, eval a X.env) :: starEach [] X.env := by rfl) : DI X G W false tg (.Call (.Name "range" p) [a] [] pos) (iR1 ea) := by
  refine ⟨⟨fun pins s σ H R I ⟨Z, B, ρ, A, R0, d⟩ => ?_⟩⟩
  refine (pi_range1 hg hm (pa_cons ha.pe pa_nil hs') hs).run pins s σ H R I ?_
  refine dE_bind shift_I R0 d fun r ρ1 v H1 A1 R1 x1 f1 d1 => ?_
  cases e : res ρ1 r with
  | none => rw [e] at d1; exact d1.elim
  | some c =>
    rw [e] at d1
    have h := f1.vw R1 e
    cases c with
    | int j =>
      by_cases hj : -rlim ≤ j ∧ j < rlim
      · simp only [if_pos hj] at d1
        refine ⟨j, by rw [show v = .int j from h], by have := hj.1; unfold rlim at this; omega, by have := hj.2; unfold rlim at this; omega, d1 _ H1 A1 R1 .refl itok_range⟩
      · simp only [if_neg hj] at d1; exact d1.elim
    | none => exact d1.elim
    | bool _ => exact d1.elim
    | str _ => exact d1.elim
    | list _ => exact d1.elim
    | tuple _ => exact d1.elim
    | dict _ => exact d1.elim
def iR2 (a b : EvE) : EvI := fun ρ => (a ρ).bind fun r ρ1 => (b ρ1).bind fun t ρ2 => match res ρ2 r, res ρ2 t with
  | some (.int i), some (.int j) => if -rlim ≤ i ∧ i < rlim ∧ -rlim ≤ j ∧ j < rlim then .ok (intsOf i (j - i).toNat) ρ2 else .bad
  | _, _ => .bad
theorem di_range2 {tg a b : Expr} {ea eb : EvE} {p pos : Pos} (hg : Gl X "range") (hm : X.mg "range" = none) (ha : DE X G W a ea) (hb : DE X G W b eb) (hs : starEach [a, b] X.env = [(false, eval a X.env), (false, eval b X.env)] := by rfl) (hs2 : starEach [b] X.env = [(false, eval b X.env)] := by rfl)
    (h1 : starEach [a, b] X.env = (false, eval a X.env) :: starEach [b] X.env := by rfl) (h2 : starEach [b] X.env = (false, eval b X.env) :: starEach [] X.env := by rfl) : DI X G W false tg (.Call (.Name "range" p) [a, b] [] pos) (iR2 ea eb) := by
  refine ⟨⟨fun pins s σ H R I ⟨Z, B, ρ, A, R0, d⟩ => ?_⟩⟩
  refine (pi_range2 hg hm (pa_cons ha.pe (pa_cons hb.pe pa_nil h2) h1) hs hs2).run pins s σ H R I ?_
  refine dE_bind shift_I R0 d fun r ρ1 v H1 A1 R1 x1 f1 d1 => ?_
  refine dE_bind shift_I R1 d1 fun t ρ2 u H2 A2 R2 x2 f2 d2 => ?_
  have f1' := f1.evo x2
  cases e : res ρ2 r with
  | none => rw [e] at d2; exact d2.elim
  | some c =>
    cases e2 : res ρ2 t with
    | none => rw [e, e2] at d2; cases c <;> exact d2.elim
    | some c2 =>
      rw [e, e2] at d2
      have h := f1'.vw R2 e
      have h2 := f2.vw R2 e2
      cases c with
      | int i =>
        cases c2 with
        | int j =>
          by_cases hj : -rlim ≤ i ∧ i < rlim ∧ -rlim ≤ j ∧ j < rlim
          · simp only [if_pos hj] at d2
            obtain ⟨q1, q2, q3, q4⟩ := hj
            unfold rlim at q1 q2 q3 q4
            exact ⟨i, j, by rw [show v = .int i from h, show u = .int j from h2], ⟨by omega, by omega, by omega, by omega⟩, d2 _ H2 A2 R2 .refl itok_range⟩
          · simp only [if_neg hj] at d2; exact d2.elim
        | none => exact d2.elim
        | bool _ => exact d2.elim
        | str _ => exact d2.elim
        | list _ => exact d2.elim
        | tuple _ => exact d2.elim
        | dict _ => exact d2.elim
      | none => exact d2.elim
      | bool _ => exact d2.elim
      | str _ => exact d2.elim
      | list _ => exact d2.elim
      | tuple _ => exact d2.elim
      | dict _ => exact d2.elim

/-! for -/
def forL (g : EvG) (b : EvS) : List PyData → Ev → Ro Fl
  | [], ρ => .ok .nx ρ
  | d :: ds, ρ => match g d ρ with
    | none => .bad
    | some ρ1 => (b ρ1).bind fun f ρ2 => match f with
      | .nx => forL g b ds ρ2
      | .ct => forL g b ds ρ2
      | .brk => .ok .nx ρ2
      | .ret r => .ok (.ret r) ρ2
def sFor (iv : EvI) (g : EvG) (b : EvS) : EvS := fun ρ => (iv ρ).bind fun its ρ1 => forL g b its ρ1
theorem ds_for {U : Bool} {tg iter : Expr} {body : List Stmt} {iv : EvI} {ws : List Nat} {g : EvG} {b : EvS} {pos : Pos} (hp : PassesOwn (model X.prog X.w) X.A X.env X.xe) (hc : X.calm = true) (hi : DI X G W U tg iter iv) (hg : DG X G U tg ws g) (hb : DSs X G W body b)
    (hs : ∀ x, foldedSetIterable iter X.env x = pure x := by intro _; rfl) : DS X G W (.For tg iter body [] pos) (sFor iv g b) :=
  ⟨PS_imp (ps_for hp hc hi.pi hg.pg hb.pss hs) fun D σ H ⟨Z, B, ρ, A, R, d⟩ => by
    refine ⟨Z, B, ρ, A, R, ?_⟩
    unfold sFor at d
    cases e : iv ρ with
    | bad => rw [e] at d; exact d.elim
    | exc y ρ1 => rw [e] at d; exact fun cv dx H' A' => d cv dx σ H' A'
    | ok its ρ1 =>
      rw [e] at d
      intro J H1 A1 R1 x1 io
      have d1 : SDn G W Z B D H1 A1 (forL g b its ρ1) := SDn.shift x1 d
      refine ⟨fun i m σ' H' => i + m = its.length ∧ ∃ ρ' A', Rep G Z B σ' H' ρ' A' ∧ Evo A1 H1 A' H' ∧ SDn G W Z B D H' A' (forL g b (its.drop i) ρ'), ⟨its.length, by omega, ρ1, A1, R1, .refl, d1⟩, fun i m σ' H' ⟨em, ρ', A', R', x', d'⟩ => ?_⟩
      obtain ⟨go, stop, yld⟩ := io Z A' H' (fun _ z => .inl z) (fun a z => z.elim (R'.zin a) fun ⟨j, z⟩ => R'.ain j a z) x'
      by_cases hl : i < its.length
      · have dr : its.drop i = its[i] :: its.drop (i + 1) := List.drop_eq_getElem_cons hl
        rw [dr] at d'
        refine .inr ⟨go i hl, fun σ2 H2 => ∃ ρ2 A2, Rep G Z B σ2 H2 ρ2 A2 ∧ Evo A1 H1 A2 H2 ∧ SDn G W Z B D H2 A2 (forL g b (its.drop (i + 1)) ρ2), fun σ2 H2 ⟨ρ2, A2, q⟩ => ⟨m - 1, by omega, by omega, ρ2, A2, q⟩, fun y H2 hy => ?_⟩
        obtain ⟨x2, c, ec, fc⟩ := yld i y H2 hl hy
        rw [List.getElem?_eq_getElem hl] at ec; cases ec
        unfold forL at d'
        cases q : g its[i] ρ' with
        | none => rw [q] at d'; exact d'.elim
        | some ρ2 =>
          simp only [q] at d'
          have R2 := R'.ext x2
          refine ⟨Z, B, ρ', A', its[i], ρ2, R2, fc, q, fun σ3 A3 R3 x3 _ => ?_⟩
          have x03 : Evo A1 H1 A3 H2 := (x'.trans (.ext x2)).trans x3
          have d3 := SDn.shift ((Evo.ext x2).trans x3) d'
          refine ⟨Z, B, ρ2, A3, R3, ?_⟩
          cases q2 : b ρ2 with
          | bad => rw [q2] at d3; exact d3.elim
          | exc y ρ4 => rw [q2] at d3; exact d3
          | ok f ρ4 =>
            rw [q2] at d3
            cases f with
            | nx => exact fun σ4 H4 A4 R4 x4 => ⟨ρ4, A4, R4, x03.trans x4, SDn.shift x4 d3⟩
            | ct => exact fun σ4 H4 A4 R4 x4 => ⟨ρ4, A4, R4, x03.trans x4, SDn.shift x4 d3⟩
            | brk => exact d3
            | ret r =>
              cases r with
              | shr c => exact d3
              | tmp c => exact d3
              | var i => exact d3
      · refine .inl ⟨stop i (by omega), ?_⟩
        have dr : its.drop i = [] := List.drop_eq_nil_of_le (by omega)
        rw [dr] at d'
        exact d' σ' H' A' R' .refl⟩
/-! while -/
def whL (c : EvT) (b : EvS) : Nat → EvS
  | 0, _ => .bad
  | n + 1, ρ => (c ρ).bind fun k ρ1 => if k = true then (b ρ1).bind fun f ρ2 => match f with
      | .nx => whL c b n ρ2
      | .ct => whL c b n ρ2
      | .brk => .ok .nx ρ2
      | .ret r => .ok (.ret r) ρ2
    else .ok .nx ρ1
theorem ds_while {c : Expr} {body : List Stmt} {tc : EvT} {b : EvS} {pos : Pos} (n : Nat) (hp : PassesOwn (model X.prog X.w) X.A X.env X.xe) (hc : DT X G W c tc) (hb : DSs X G W body b) : DS X G W (.While c body [] pos) (whL tc b n) :=
  ⟨PS_imp (ps_while hp hc.pt hb.pss) fun D σ H ⟨Z, B, ρ, A, R, d⟩ => by
    refine ⟨fun m σ' H' => ∃ ρ' A', Rep G Z B σ' H' ρ' A' ∧ SDn G W Z B D H' A' (whL tc b m ρ'), ⟨n, ρ, A, R, d⟩, fun m σ' H' ⟨ρ', A', R', d'⟩ => ?_⟩
    cases m with
    | zero => exact d'.elim
    | succ m =>
      unfold whL at d'
      refine dT_S R' d' fun k ρ1 H1 A1 R1 x1 d1 => ?_
      cases k with
      | false => 
        simp only [if_neg Bool.false_ne_true] at d1
        exact d1 σ' H1 A1 R1 .refl
      | true =>
        simp only [if_true] at d1
        refine ⟨fun σ2 H2 => ∃ ρ2 A2, Rep G Z B σ2 H2 ρ2 A2 ∧ SDn G W Z B D H2 A2 (whL tc b m ρ2), fun σ2 H2 q => ⟨m, Nat.lt_succ_self m, q⟩, Z, B, ρ1, A1, R1, ?_⟩
        cases q2 : b ρ1 with
        | bad => rw [q2] at d1; exact d1.elim
        | exc y ρ4 => rw [q2] at d1; exact d1
        | ok f ρ4 =>
          rw [q2] at d1
          cases f with
          | nx => exact fun σ4 H4 A4 R4 x4 => ⟨ρ4, A4, R4, SDn.shift x4 d1⟩
          | ct => exact fun σ4 H4 A4 R4 x4 => ⟨ρ4, A4, R4, SDn.shift x4 d1⟩
          | brk => exact d1
          | ret r =>
            cases r with
            | shr c => exact d1
            | tmp c => exact d1
            | var i => exact d1⟩
end
end DL

namespace DL
open PySem L2
section
variable {X : Cx} {G : Gm} {W : Wi} {Z Z' : Ow} {B A A1 A2 A0 : Nat → Option Addr} {σ σ1 : L2.St} {H H1 H2 H0 : Hp} {ρ ρ1 ρ2 : Ev} {Q : VK} {v : V} {r : RV} {D D' : Ends}

/-! ### values whose new lists stay owned -/
def ZL (Z : Ow) (T : List Addr) : Ow := fun b => Z b ∨ b ∈ T
inductive HOs (O : Ow) (H : Hp) : List V → List RV → List Addr → Prop
  | nil : HOs O H [] [] []
  | shr {v : V} {vs : List V} {d : PyData} {rs : List RV} {T : List Addr} : Fz O H v d → HOs O H vs rs T → HOs O H (v :: vs) (.shr d :: rs) T
  | tmp {a : Addr} {vs : List V} {d : PyData} {rs : List RV} {T : List Addr} : Ob O H a d → HOs O H vs rs T → HOs O H (.ref a :: vs) (.tmp d :: rs) (a :: T)
theorem HOs.weak {O O' : Ow} (f : ∀ a, O' a → O a) : ∀ {vs : List V} {rs : List RV} {T : List Addr}, HOs O H vs rs T → HOs O' H vs rs T
  | _, _, _, .nil => .nil
  | _, _, _, .shr h t => .shr (h.weak f) (t.weak f)
  | _, _, _, .tmp h t => .tmp (h.weak f) (t.weak f)
def pO (G : Gm) (Z : Ow) (B : Nat → Option Addr) (σ : L2.St) (Q : List V → Hp → Prop) : PF (List RV) := fun H A rs ρ' =>
  ∀ vs H' A' T, Rep G (ZL Z T) B σ H' ρ' A' → Evo A H A' H' → (∀ a ∈ T, H a = none) → T.Nodup → HOs (Oo (ZL Z T) A') H' vs rs T → Q vs H'
def dO (G : Gm) (W : Wi) (ev : EvA) : TA := fun σ H Q => ∃ Z B ρ A, Rep G Z B σ H ρ A ∧ Done G W Z B σ (pO G Z B σ Q) H A (ev ρ)
structure DO (X : Cx) (G : Gm) (W : Wi) (es : List Expr) (ev : EvA) : Prop where
  pa : PA X es (dO G W ev)
def eConsO (a : EvE) (r : EvA) : EvA := fun ρ => (a ρ).bind fun x ρ1 => match x with
  | .var _ => .bad
  | x => (r ρ1).bind fun xs ρ2 => .ok (x :: xs) ρ2
theorem do_nil : DO X G W [] eNil := ⟨PA_imp pa_nil fun σ H Q ⟨Z, B, ρ, A, R, d⟩ => d [] H A [] (R.dropZ fun a z => z.elim id fun z => absurd z (by simp)) .refl (fun a z => absurd z (by simp)) .nil .nil⟩
theorem do_cons {e : Expr} {es : List Expr} {ea : EvE} {er : EvA} (ha : DE X G W e ea) (hr : DO X G W es er) (hs : starEach (e :: es) X.env = (false, eval e X.env) :: starEach es X.env := by rfl) : DO X G W (e :: es) (eConsO ea er) :=
  ⟨PA_imp (pa_cons ha.pe hr.pa hs) fun σ H Q ⟨Z, B, ρ, A, R, d⟩ => by
    unfold eConsO at d
    refine ⟨Z, B, ρ, A, R, ?_⟩
    cases e1 : ea ρ with
    | bad => rw [e1] at d; exact d.elim
    | exc y ρ1 => rw [e1] at d; exact d
    | ok r ρ1 =>
      rw [e1] at d
      cases r with
      | var i => exact d.elim
      | shr c =>
        intro v H1 A1 R1 x1 f1
        refine ⟨Z, B, ρ1, A1, R1, ?_⟩
        simp only [Ro.bind] at d
        cases e2 : er ρ1 with
        | bad => rw [e2] at d; exact d.elim
        | exc y ρ2 => rw [e2] at d; exact fun cv dx H' A' R' x' q => d cv dx H' A' R' (x1.trans x') q
        | ok rs ρ2 =>
          rw [e2] at d
          intro vs H' A' T R' x' hT nd ho
          refine d (v :: vs) H' A' T R' (x1.trans x') (fun a ha => x1.dom a (hT a ha)) nd (.shr ?_ ho)
          exact f1.mono (fun a o e n => x'.keep a o e fun i z => n (.inr ⟨i, z⟩)) (fun a z => z.elim (fun z => z.elim (fun z => .inl (.inl z)) fun z => .inr (hT a z)) fun ⟨i, z⟩ => (x'.sub i a z).elim (fun w => .inl (.inr w)) .inr) c
      | tmp c =>
        intro a H1 A1 R1 x1 n1 o1
        refine ⟨Zx Z a, B, ρ1, A1, R1, ?_⟩
        simp only [Ro.bind] at d
        cases e2 : er ρ1 with
        | bad => rw [e2] at d; exact d.elim
        | exc y ρ2 => rw [e2] at d; exact fun cv dx H' A' R' x' q => d cv dx H' A' (R'.dropZ fun b z => .inl z) (x1.trans x') (by
            obtain ⟨C, h1, h2, h3⟩ := q
            refine ⟨C, h1, h2, ?_⟩
            cases hd : y.d with
            | none => rw [hd] at h3; exact h3
            | some dd =>
              rw [hd] at h3
              obtain ⟨p, w, g1, g2, g3, g4⟩ := h3
              exact ⟨p, w, g1, g2, fun z => g3 (oo_zx _ z), g4.weak oo_zx⟩)
        | ok rs ρ2 =>
          rw [e2] at d
          intro vs H' A' T R' x' hT nd ho
          have th : H1 a ≠ none := o1.there
          have zz : ∀ b, ZL Z (a :: T) b → ZL (Zx Z a) T b := fun b z => z.elim (fun z => .inl (.inl z)) fun z => (List.mem_cons.mp z).elim (fun z => .inl (.inr z)) .inr
          have oz : ∀ b, Oo (ZL Z (a :: T)) A' b → Oo (ZL (Zx Z a) T) A' b := fun b z => z.elim (fun z => .inl (zz b z)) .inr
          refine d (.ref a :: vs) H' A' (a :: T) (R'.dropZ zz) (x1.trans x') (fun b hb => (List.mem_cons.mp hb).elim (fun z => by rw [z]; exact n1) fun z => x1.dom b (hT b z)) (List.nodup_cons.mpr ⟨fun z => th (hT a z), nd⟩) (.tmp ?_ (ho.weak oz))
          refine (o1.mono (fun b o e n => x'.keep b o e fun i z => n (.inr ⟨i, z⟩)) (fun b z => ?_) fun o e => x'.keep a o e fun i z => R1.apart i a z (.inr rfl) : Ob (Oo (ZL Z (a :: T)) A') H' a c)
          exact (oz b z).elim (fun z => z.elim (fun z => .inl (.inl z)) fun z => .inr (hT b z)) fun ⟨i, z⟩ => (x'.sub i b z).elim (fun w => .inl (.inr w)) .inr⟩
def putR (ρ : Ev) (i : Nat) (r : RV) : Option Ev := if settable (look ρ i) = true then (match r with
  | .shr d => some (put ρ i (.dat d .frz))
  | .tmp d => some (put ρ i (.dat d .own))
  | .var _ => none) else none
theorem put_ok {i : Nat} {vs : List V} {rs : List RV} {T : List Addr} {ρ' : Ev} (R : Rep G (ZL Z T) B σ H ρ A) (x : Evo A0 H0 A H) (hz : ∀ a, Z a → H0 a ≠ none) (hT : ∀ a ∈ T, H0 a = none) (nd : T.Nodup) (h : HOs (Oo (ZL Z T) A) H (v :: vs) (r :: rs) T) (e : putR ρ i r = some ρ') :
    ∃ A' T', Rep G (ZL Z T') B (σ.set i (some v)) H ρ' A' ∧ Evo A0 H0 A' H ∧ (∀ a ∈ T', H0 a = none) ∧ T'.Nodup ∧ HOs (Oo (ZL Z T') A') H vs rs T' := by
  unfold putR at e
  by_cases hs : settable (look ρ i) = true
  · rw [if_pos hs] at e
    have np := npar_of hs
    cases h with
    | shr f t =>
      cases e
      exact ⟨_, T, R.setF np f, x.trans evo_cut, hT, nd, t.weak oo_cut⟩
    | @tmp a _ _ _ T' o t =>
      cases e
      have zz : ∀ b, Zx (ZL Z T') a b → ZL Z (a :: T') b := fun b z => z.elim (fun z => z.elim .inl fun z => .inr (List.mem_cons_of_mem _ z)) fun z => .inr (by rw [z]; exact List.mem_cons_self ..)
      have oz : ∀ b, Oo (Zx (ZL Z T') a) A b → Oo (ZL Z (a :: T')) A b := fun b z => z.elim (fun z => .inl (zz b z)) .inr
      have n0 := hT a (List.mem_cons_self ..)
      refine ⟨_, T', (R.dropZ zz).setO np (fun z => z.elim (fun z => hz a z n0) (List.nodup_cons.mp nd).1) (o.weak oz), evo_new n0 x, fun b hb => hT b (List.mem_cons_of_mem _ hb), (List.nodup_cons.mp nd).2, t.weak fun b z => oz b (oo_new b z)⟩
  · rw [if_neg hs] at e; cases e
theorem dO_S {ev : EvA} {k : List RV → Ev → Ro Fl} {Q' : List V → Hp → Prop} (R : Rep G Z B σ H ρ A) (d : SDn G W Z B D H A ((ev ρ).bind k))
    (h : ∀ rs ρ1 vs H1 A1 T, Rep G (ZL Z T) B σ H1 ρ1 A1 → Evo A H A1 H1 → (∀ a ∈ T, H a = none) → T.Nodup → HOs (Oo (ZL Z T) A1) H1 vs rs T → SDn G W Z B D H A (k rs ρ1) → Q' vs H1) : dO G W ev σ H Q' := by
  refine ⟨Z, B, ρ, A, R, ?_⟩
  cases e : ev ρ with
  | ok rs ρ1 =>
    rw [e] at d
    exact fun vs H' A' T R' x hT nd f => h rs ρ1 vs H' A' T R' x hT nd f d
  | exc y ρ1 =>
    rw [e] at d
    exact fun cv dx H' A' => d cv dx σ H' A'
  | bad =>
    rw [e] at d
    exact d.elim
theorem HOs.pair {O : Ow} : ∀ {vs : List V} {r s : RV} {T : List Addr}, HOs O H vs [r, s] T → ∃ v w, vs = [v, w]
  | _, _, _, _, .shr _ (.shr _ .nil) => ⟨_, _, rfl⟩
  | _, _, _, _, .shr _ (.tmp _ .nil) => ⟨_, _, rfl⟩
  | _, _, _, _, .tmp _ (.shr _ .nil) => ⟨_, _, rfl⟩
  | _, _, _, _, .tmp _ (.tmp _ .nil) => ⟨_, _, rfl⟩
theorem HOs.three {O : Ow} {vs : List V} {q r s : RV} {T : List Addr} (h : HOs O H vs [q, r, s] T) : ∃ u v w, vs = [u, v, w] := by
  cases h with
  | shr _ t => obtain ⟨v, w, rfl⟩ := t.pair; exact ⟨_, _, _, rfl⟩
  | tmp _ t => obtain ⟨v, w, rfl⟩ := t.pair; exact ⟨_, _, _, rfl⟩
def sPar (i j : Nat) (a : EvA) : EvS := fun ρ => (a ρ).bind fun rs ρ1 => match rs with
  | [r, s] => match putR ρ1 i r with
    | some ρ2 => match putR ρ2 j s with
      | some ρ3 => .ok .nx ρ3
      | none => .bad
    | none => .bad
  | _ => .bad
theorem ds_par {i j : Nat} {x y : Str} {a b : Expr} {ea : EvA} {px py pt pos : Pos} {kt k2 pt2} (hc : X.calm = true) (hN : X.N.Nodup) (hi : X.N[i]? = some x) (hj : X.N[j]? = some y) (hij : i ≠ j)
    (hx : X.env.scope.names.lookup x = some .local) (hy : X.env.scope.names.lookup y = some .local) (ha : DO X G W [a, b] ea)
    (hw : swappedStores [.Tuple [.Name x px, .Name y py] kt pt] (.Tuple [a, b] k2 pt2) X.env = pure (some [x, y]))
    (hs : swapsWithSole [.Tuple [.Name x px, .Name y py] kt pt] (.Tuple [a, b] k2 pt2) pos.line X.env = pure false := by rfl) :
    DS X G W (.Assign [.Tuple [.Name x px, .Name y py] kt pt] (.Tuple [a, b] k2 pt2) pos) (sPar i j ea) :=
  ⟨PS_imp (ps_par hc hN hi hj hij hx hy ha.pa hw hs) fun D σ H ⟨Z, B, ρ, A, R, d⟩ => dO_S R d fun rs ρ1 vs H1 A1 T R1 x1 hT nd f d1 => by
    match rs, f, d1 with
    | [r, s], f, d1 =>
      obtain ⟨v, w, rfl⟩ := f.pair
      refine ⟨v, w, rfl, ?_⟩
      simp only [] at d1
      cases e1 : putR ρ1 i r with
      | none => rw [e1] at d1; exact d1.elim
      | some ρ2 =>
        simp only [e1] at d1
        cases e2 : putR ρ2 j s with
        | none => simp only [e2] at d1; exact d1.elim
        | some ρ3 =>
          simp only [e2] at d1
          obtain ⟨A2, T2, R2, x2, hT2, nd2, f2⟩ := put_ok R1 x1 R.zin hT nd f e1
          obtain ⟨A3, T3, R3, x3, hT3, nd3, f3⟩ := put_ok R2 x2 R.zin hT2 nd2 f2 e2
          exact d1 _ H1 A3 (R3.dropZ fun b z => .inl z) x3
    | [], f, d1 => exact d1.elim
    | [_], f, d1 => exact d1.elim
    | _ :: _ :: _ :: _, f, d1 => exact d1.elim⟩
def sPar3 (i j l : Nat) (a : EvA) : EvS := fun ρ => (a ρ).bind fun rs ρ1 => match rs with
  | [q, r, s] => match putR ρ1 i q with
    | some ρ2 => match putR ρ2 j r with
      | some ρ3 => match putR ρ3 l s with
        | some ρ4 => .ok .nx ρ4
        | none => .bad
      | none => .bad
    | none => .bad
  | _ => .bad
theorem ds_par3 {i j l : Nat} {x y z : Str} {a b c : Expr} {ea : EvA} {px py pz pt pos : Pos} {kt k2 pt2} (hc : X.calm = true) (hN : X.N.Nodup) (hi : X.N[i]? = some x) (hj : X.N[j]? = some y) (hl : X.N[l]? = some z) (hij : i ≠ j) (hil : i ≠ l) (hjl : j ≠ l)
    (hx : X.env.scope.names.lookup x = some .local) (hy : X.env.scope.names.lookup y = some .local) (hz : X.env.scope.names.lookup z = some .local) (ha : DO X G W [a, b, c] ea)
    (hw : swappedStores [.Tuple [.Name x px, .Name y py, .Name z pz] kt pt] (.Tuple [a, b, c] k2 pt2) X.env = pure (some [x, y, z]))
    (hs : swapsWithSole [.Tuple [.Name x px, .Name y py, .Name z pz] kt pt] (.Tuple [a, b, c] k2 pt2) pos.line X.env = pure false := by rfl) :
    DS X G W (.Assign [.Tuple [.Name x px, .Name y py, .Name z pz] kt pt] (.Tuple [a, b, c] k2 pt2) pos) (sPar3 i j l ea) :=
  ⟨PS_imp (ps_par3 hc hN hi hj hl hij hil hjl hx hy hz ha.pa hw hs) fun D σ H ⟨Z, B, ρ, A, R, d⟩ => dO_S R d fun rs ρ1 vs H1 A1 T R1 x1 hT nd f d1 => by
    match rs, f, d1 with
    | [q, r, s], f, d1 =>
      obtain ⟨u, v, w, rfl⟩ := f.three
      refine ⟨u, v, w, rfl, ?_⟩
      simp only [] at d1
      cases e1 : putR ρ1 i q with
      | none => rw [e1] at d1; exact d1.elim
      | some ρ2 =>
        simp only [e1] at d1
        cases e2 : putR ρ2 j r with
        | none => simp only [e2] at d1; exact d1.elim
        | some ρ3 =>
          simp only [e2] at d1
          cases e3 : putR ρ3 l s with
          | none => simp only [e3] at d1; exact d1.elim
          | some ρ4 =>
            simp only [e3] at d1
            obtain ⟨A2, T2, R2, x2, hT2, nd2, f2⟩ := put_ok R1 x1 R.zin hT nd f e1
            obtain ⟨A3, T3, R3, x3, hT3, nd3, f3⟩ := put_ok R2 x2 R.zin hT2 nd2 f2 e2
            obtain ⟨A4, T4, R4, x4, hT4, nd4, f4⟩ := put_ok R3 x3 R.zin hT3 nd3 f3 e3
            exact d1 _ H1 A4 (R4.dropZ fun b z => .inl z) x4
    | [], f, d1 => exact d1.elim
    | [_], f, d1 => exact d1.elim
    | [_, _], f, d1 => exact d1.elim
    | _ :: _ :: _ :: _ :: _, f, d1 => exact d1.elim⟩

/-! ### x op= e of ints -/
def sAug (i : Nat) (f : Int → Int → Int) (a : EvE) : EvS := fun ρ => match look ρ i with
  | .dat (.int m) .frz => (a ρ).bind fun r ρ1 => match res ρ1 r with
    | some (.int n) => if settable (look ρ1 i) = true then .ok .nx (put ρ1 i (.dat (.int (f m n)) .frz)) else .bad
    | _ => .bad
  | _ => .bad
theorem ds_aug {i : Nat} {x : Str} {e : Expr} {ea : EvE} {op : Operator} {f : Int → Int → Int} {pos pos' : Pos} (hN : X.N.Nodup) (hi : X.N[i]? = some x) (hx : Loc X.env.scope x) (he : DE X G W e ea) (ho : PIp X op (ipI f)) (hf : X.fn x = true ∨ X.env.scope.names.lookup x = some .local := by first | exact .inl rfl | exact .inr rfl | assumption) :
    DS X G W (.AugAssign (.Name x pos') op e pos) (sAug i f ea) :=
  ⟨PS_imp (ps_aug hN hi hx he.pe ho hf) fun D σ H ⟨Z, B, ρ, A, R, d⟩ => by
    have q := R.at_ i
    unfold sAug at d
    cases l : look ρ i with
    | non => simp only [l] at d; exact d.elim
    | scr ns => simp only [l] at d; exact d.elim
    | dat c k =>
      cases c with
      | int m =>
        cases k with
        | frz =>
          simp only [l] at d
          rw [l] at q
          obtain ⟨w, h1, h2⟩ := q
          cases h2
          refine ⟨_, h1, dE_S R d fun r ρ1 v H1 A1 R1 x1 f1 d1 => ?_⟩
          cases e1 : res ρ1 r with
          | none => rw [e1] at d1; exact d1.elim
          | some c2 =>
            rw [e1] at d1
            have g := f1.vw R1 e1
            cases c2 with
            | int n =>
              by_cases hs : settable (look ρ1 i) = true
              · simp only [if_pos hs] at d1
                exact ⟨m, n, rfl, g, d1 _ H1 _ (R1.setF (npar_of hs) (.int _)) evo_cut⟩
              · simp only [if_neg hs] at d1; exact d1.elim
            | none => exact d1.elim
            | bool _ => exact d1.elim
            | str _ => exact d1.elim
            | list _ => exact d1.elim
            | tuple _ => exact d1.elim
            | dict _ => exact d1.elim
        | own => simp only [l] at d; exact d.elim
        | par => simp only [l] at d; exact d.elim
      | none => cases k <;> simp only [l] at d <;> exact d.elim
      | bool _ => cases k <;> simp only [l] at d <;> exact d.elim
      | str _ => cases k <;> simp only [l] at d <;> exact d.elim
      | list _ => cases k <;> simp only [l] at d <;> exact d.elim
      | tuple _ => cases k <;> simp only [l] at d <;> exact d.elim
      | dict _ => cases k <;> simp only [l] at d <;> exact d.elim⟩

/-! ### a list that a slot owns, written -/
def wr (ρ : Ev) (j : Nat) : Option (List PyData × Kd) := match look ρ j with
  | .dat (.list ds) .own => some (ds, .own)
  | .dat (.list ds) .par => some (ds, .par)
  | _ => none
theorem wr_ok {j : Nat} {ds : List PyData} {k : Kd} (h : wr ρ j = some (ds, k)) : look ρ j = .dat (.list ds) k ∧ k ≠ .frz := by
  unfold wr at h
  cases l : look ρ j with
  | non => simp [l] at h
  | scr ns => simp [l] at h
  | dat c k' =>
    cases c with
    | list es => cases k' <;> simp [l] at h <;> (obtain ⟨rfl, rfl⟩ := h; exact ⟨rfl, by simp⟩)
    | none => simp [l] at h
    | bool _ => simp [l] at h
    | int _ => simp [l] at h
    | str _ => simp [l] at h
    | tuple _ => simp [l] at h
    | dict _ => simp [l] at h
theorem Rep.own {j : Nat} {ds : List PyData} {k : Kd} (R : Rep G Z B σ H ρ A) (l : look ρ j = .dat (.list ds) k) (hk : k ≠ .frz) : ∃ a xs, σ[j]? = some (some (.ref a)) ∧ A j = some a ∧ H a = some (.lst xs) ∧ FzA (Oo Z A) H xs ds := by
  have q := R.at_ j
  rw [l] at q
  cases k with
  | frz => exact absurd rfl hk
  | own => obtain ⟨a, h0, h1, xs, h2, h3⟩ := q; exact ⟨a, xs, h1, h0, h2, h3⟩
  | par => obtain ⟨a, h0, _, h1, xs, h2, h3⟩ := q; exact ⟨a, xs, h1, h0, h2, h3⟩
/-- x[i] = e -/
def sSetIx (j : Nat) (ie e : EvE) : EvS := fun ρ => (e ρ).bind fun r ρ1 => (escR ρ1 r).bind fun d ρ2 => match wr ρ2 j with
  | none => .bad
  | some _ => (ie ρ2).bind fun k ρ3 => match res ρ3 k, wr ρ3 j with
    | some (.int n), some (ds, kd) => match ixN ds.length n with
      | some m => .ok .nx (put ρ3 j (.dat (.list (ds.set m d)) kd))
      | none => .bad
    | _, _ => .bad
theorem ds_setix {j : Nat} {x : Str} {i e : Expr} {ea ei : EvE} {px pt pos : Pos} (hv : PE X (.Name x px) (tVar j)) (he : DE X G W e ea) (hi : DE X G W i ei)
    (hs : swapsWithSole [.Subscript (.Name x px) i pt] e pos.line X.env = pure false := by rfl) (hw : swappedStores [.Subscript (.Name x px) i pt] e X.env = pure none := by rfl)
    (h1 : (assignEach [.Subscript (.Name x px) i pt] X.env).map (·.2) = [assign (.Subscript (.Name x px) i pt) X.env] := by rfl) (ht : PG X (.Subscript (.Name x px) i pt) (gSub (tVar j) (dE G W ei) rSetL)) : DS X G W (.Assign [.Subscript (.Name x px) i pt] e pos) (sSetIx j ei ea) :=
  ⟨PS_imp (ps_asg he.pe ht hs hw h1) fun D σ H ⟨Z, B, ρ, A, R, d⟩ => dE_S R d fun r ρ1 v H1 A1 R1 x1 f1 d1 => by
    cases q : escR ρ1 r with
    | bad => rw [q] at d1; exact d1.elim
    | exc y ρ2 => exact absurd q escR_ne
    | ok c ρ2 =>
      rw [q] at d1
      obtain ⟨A2, R2, x2, f2⟩ := esc_ok R1 f1 q
      have d2 := SDn.shift x2 d1
      simp only [Ro.bind] at d2
      cases w0 : wr ρ2 j with
      | none => simp only [w0] at d2; exact d2.elim
      | some p0 =>
        obtain ⟨ds0, k0⟩ := p0
        simp only [w0] at d2
        obtain ⟨a, xs0, ha, _⟩ := R2.own (wr_ok w0).1 (wr_ok w0).2
        refine ⟨_, ha, dE_S R2 d2 fun k ρ3 u H3 A3 R3 x3 f3 d3 => ?_⟩
        have fc := x3.fz f2
        cases e1 : res ρ3 k with
        | none => rw [e1] at d3; exact d3.elim
        | some c1 =>
          rw [e1] at d3
          have g := f3.vw R3 e1
          cases c1 with
          | int n =>
            cases w1 : wr ρ3 j with
            | none => simp only [w1] at d3; exact d3.elim
            | some p1 =>
              obtain ⟨ds, kd⟩ := p1
              simp only [w1] at d3
              obtain ⟨b, xs, hb, hA, hH, fx⟩ := R3.own (wr_ok w1).1 (wr_ok w1).2
              rw [ha] at hb; cases hb
              cases e2 : ixN ds.length n with
              | none => simp only [e2] at d3; exact d3.elim
              | some m =>
                simp only [e2] at d3
                obtain ⟨_, R4, x4⟩ := R3.write (wr_ok w1).1 (wr_ok w1).2 ha (FzA.set fc m fx)
                exact ⟨a, xs, n, m, rfl, g, hH, by rw [fx.len]; exact e2, d3 _ _ _ R4 x4⟩
          | none => exact d3.elim
          | bool _ => exact d3.elim
          | str _ => exact d3.elim
          | list _ => exact d3.elim
          | tuple _ => exact d3.elim
          | dict _ => exact d3.elim⟩
/-- a method that changes its list -/
abbrev GM := List PyData → List PyData → Option (List PyData × PyData)
def MutS (r : V → List V → Hp → VK → Prop) (g : GM) : Prop := ∀ (O : Ow) (H : Hp) (a : Addr) (xs : List V) (ds : List PyData) (vs : List V) (es : List PyData) (ds' : List PyData) (c : PyData) (Q : VK),
  H a = some (.lst xs) → FzA O H xs ds → FzA O H vs es → g ds es = some (ds', c) → (∀ xs' v, FzA O H xs' ds' → Fz O H v c → Q v (upd H a (.lst xs'))) → r (.ref a) vs H Q
def eMut (j : Nat) (g : GM) (a : EvA) : EvE := fun ρ => match wr ρ j with
  | none => .bad
  | some _ => (a ρ).bind fun rs ρ1 => match shrs rs, wr ρ1 j with
    | some es, some (ds, k) => match g ds es with
      | some (ds', c) => .ok (.shr c) (put ρ1 j (.dat (.list ds') k))
      | none => .bad
    | _, _ => .bad
theorem mut_ok {j : Nat} {g : GM} {ea : EvA} {rr : V → List V → Hp → VK → Prop} (hs : MutS rr g) (R : Rep G Z B σ H ρ A) (d : Done G W Z B σ (pE G Z B σ Q) H A (eMut j g ea ρ)) :
    ∃ a xs, σ[j]? = some (some (.ref a)) ∧ H a = some (.lst xs) ∧ dA G W ea σ H (fun vs H1 => rr (.ref a) vs H1 Q) := by
  unfold eMut at d
  cases w0 : wr ρ j with
  | none => simp only [w0] at d; exact d.elim
  | some p0 =>
    obtain ⟨ds0, k0⟩ := p0
    simp only [w0] at d
    obtain ⟨a, xs0, ha, _, hh, _⟩ := R.own (wr_ok w0).1 (wr_ok w0).2
    refine ⟨a, xs0, ha, hh, dA_bind shift_E R d fun rs ρ1 vs H1 A1 R1 x1 f1 d1 => ?_⟩
    cases e1 : shrs rs with
    | none => rw [e1] at d1; exact d1.elim
    | some es =>
      cases w1 : wr ρ1 j with
      | none => rw [e1, w1] at d1; exact d1.elim
      | some p1 =>
        obtain ⟨ds, k⟩ := p1
        simp only [e1, w1] at d1
        obtain ⟨b, xs, hb, hA, hH, fx⟩ := R1.own (wr_ok w1).1 (wr_ok w1).2
        rw [ha] at hb; cases hb
        cases e2 : g ds es with
        | none => simp only [e2] at d1; exact d1.elim
        | some p2 =>
          obtain ⟨ds', c⟩ := p2
          simp only [e2] at d1
          refine hs _ H1 a xs ds vs es ds' c Q hH fx (f1.shr e1) e2 fun xs' v f2 f3 => ?_
          obtain ⟨_, R2, x2⟩ := R1.write (wr_ok w1).1 (wr_ok w1).2 ha f2
          refine d1 v _ _ R2 x2 (f3.mono (fun b o e n => ?_) (fun _ z => .inl z) c)
          exact .of (by rw [upd_ne (fun z => n (by rw [z]; exact .inr ⟨j, hA⟩))]; exact e)
section
variable {x : Str} {e : Expr} {es : List Expr} {name : Str} {px apos cpos : Pos} {id : String} {rr : V → List V → Hp → VK → Prop} {j : Nat} {g : GM} {ea : EvA}
theorem de_mut (slot : Slot "list" name id) (hty : typeOf (.builtin id) = pure (.type "method_descriptor")) (hm : MtR X id rr) (hs : MutS rr g) (hv : PE X (.Name x px) (tVar j)) (ha : DA X G W (e :: es) ea)
    (hbase : attributeBase (.Name x px) name X.env (eval (.Name x px) X.env) = eval (.Name x px) X.env := by rfl)
    (hfew : ((backTo cpos (starEach (e :: es) X.env)).all (fun x => !x.1) && (backToKw cpos (keywordEach [] X.env)).all (fun x => x.1.isSome)
      && decide ((e :: es).length + ([] : List Keyword).length + (if ([] : List Keyword).isEmpty then 0 else 1) < 30)) = true := by rfl)
    (hline : (apos.endLine == cpos.line) = true := by rfl) (hst : starEach (e :: es) X.env = (false, eval e X.env) :: starEach es X.env := by rfl) (hpl : (backTo cpos (starEach es X.env)).any (·.1) = false := by rfl) :
    DE X G W (.Call (.Attribute (.Name x px) name apos) (e :: es) [] cpos) (eMut j g ea) :=
  ⟨PE_imp (pe_bm PySem.F.plainAttrs_list slot hty hm hv ha.pa hbase hfew hline hst hpl) fun σ H Q ⟨Z, B, ρ, A, R, d⟩ => by
    obtain ⟨a, xs, h1, h2, h3⟩ := mut_ok hs R d
    exact ⟨_, h1, .inl ⟨rfl, xs, .of h2⟩, h3⟩⟩
theorem de_mut0 (slot : Slot "list" name id) (hty : typeOf (.builtin id) = pure (.type "method_descriptor")) (hm : MtR X id rr) (hs : MutS rr g) (hv : PE X (.Name x px) (tVar j))
    (hbase : attributeBase (.Name x px) name X.env (eval (.Name x px) X.env) = eval (.Name x px) X.env := by rfl) (hline : (apos.endLine == cpos.line) = true := by rfl) :
    DE X G W (.Call (.Attribute (.Name x px) name apos) [] [] cpos) (eMut j g eNil) :=
  ⟨PE_imp (pe_bm0 PySem.F.plainAttrs_list slot hty hm hv hbase hline) fun σ H Q ⟨Z, B, ρ, A, R, d⟩ => by
    obtain ⟨a, xs, h1, h2, Z', B', ρ', A', R', d'⟩ := mut_ok hs R d
    exact ⟨_, h1, .inl ⟨rfl, xs, .of h2⟩, d' [] H A' R' .refl .nil⟩⟩
end

/-! ### list comprehensions -/
abbrev Wn : Wi := fun _ _ _ _ => False
def wipable (ρ : Ev) (i : Nat) : Bool := match look ρ i with
  | .dat _ .own => false
  | .dat _ .par => false
  | _ => true
def wipeE (ρ : Ev) : List Nat → Ev
  | [] => ρ
  | v :: vs => put (wipeE ρ vs) v .non
theorem wipable_np {ρ : Ev} {i : Nat} (h : wipable ρ i = true) : Npar (look ρ i) := fun d e => by unfold wipable at h; rw [e] at h; cases h
theorem wipeE_np {ρ : Ev} {i : Nat} (h : Npar (look ρ i)) : ∀ vs, Npar (look (wipeE ρ vs) i)
  | [] => h
  | v :: vs => by
    show Npar (look (put (wipeE ρ vs) v .non) i)
    rw [look_put]
    split
    · exact fun d e => nomatch e
    · exact wipeE_np h vs
theorem Rep.wipe (R : Rep G Z B σ H ρ A) : ∀ (vs : List Nat), vs.all (wipable ρ) = true → ∃ A', Rep G Z B (L2.wipe σ vs) H (wipeE ρ vs) A' ∧ Evo A H A' H
  | [], _ => ⟨A, R, .refl⟩
  | v :: vs, h => by
    rw [List.all_cons, Bool.and_eq_true] at h
    obtain ⟨A1, R1, x1⟩ := R.wipe vs h.2
    exact ⟨_, R1.setN (wipeE_np (wipable_np h.1) vs), x1.trans evo_cut⟩
def restore (ρ1 : Ev) (ρ : Ev) : List Nat → Ev
  | [] => ρ
  | v :: vs => put (restore ρ1 ρ vs) v (look ρ1 v)
theorem restore_len {ρ1 ρ : Ev} : ∀ vs, (restore ρ1 ρ vs).length = ρ.length
  | [] => rfl
  | v :: vs => by show (put _ _ _).length = _; rw [put_len, restore_len vs]
theorem look_restore {ρ1 ρ : Ev} {i : Nat} : ∀ vs, look (restore ρ1 ρ vs) i = if i ∈ vs ∧ i < ρ.length then look ρ1 i else look ρ i
  | [] => by simp [restore]
  | v :: vs => by
    show look (put (restore ρ1 ρ vs) v (look ρ1 v)) i = _
    rw [look_put, restore_len, look_restore vs]
    by_cases e : i = v
    · subst e
      by_cases l : i < ρ.length
      · simp [l]
      · simp [l]
    · simp [e]
theorem wipe_len (σ : L2.St) (vs : List Nat) : (L2.wipe σ vs).length = σ.length := wipe_length σ vs
theorem wipe_out' {σ : L2.St} {i : Nat} : ∀ {vs : List Nat}, i ∉ vs → (L2.wipe σ vs)[i]? = σ[i]?
  | [], _ => rfl
  | v :: vs, h => by
    show ((L2.wipe σ vs).set v none)[i]? = _
    rw [get_set (fun e => h (by rw [e]; exact List.mem_cons_self ..))]
    exact wipe_out' fun z => h (List.mem_cons_of_mem _ z)
theorem wipe_agr {σ σ' : L2.St} {ws : List Nat} (g : Agr ws σ σ') : ∀ vs, (∀ i ∈ ws, i ∈ vs) → L2.wipe σ' vs = L2.wipe σ vs := fun vs h => by
  refine List.ext_getElem? fun i => ?_
  by_cases hi : i ∈ vs
  · have key : ∀ (τ : L2.St) (vs : List Nat), i ∈ vs → (L2.wipe τ vs)[i]? = if i < τ.length then some none else none := by
      intro τ vs
      induction vs with
      | nil => intro h; cases h
      | cons v vs ih =>
        intro h
        show ((L2.wipe τ vs).set v none)[i]? = _
        rw [List.getElem?_set]
        by_cases e : v = i
        · rw [if_pos e, wipe_length]; subst e; rfl
        · rw [if_neg e]
          exact ih ((List.mem_cons.mp h).elim (fun z => absurd z.symm e) id)
    rw [key σ' vs hi, key σ vs hi, g.1]
  · rw [wipe_out' hi, wipe_out' hi]
    exact g.2 i fun z => hi (h i z)
def lcL (g : EvG) (t : EvT) (e : EvE) (vs : List Nat) : List PyData → Ev → Option (List PyData × Ev)
  | [], ρ => some ([], ρ)
  | d :: ds, ρ => match g d ρ with
    | none => none
    | some ρ1 => match t ρ1 with
      | .ok true ρ2 => match eEsc e ρ2 with
        | .ok (.shr x) ρ3 => if vs.all (wipable ρ3) = true then (match lcL g t e vs ds (wipeE ρ3 vs) with
          | some (xs, ρ') => some (x :: xs, ρ')
          | none => none) else none
        | _ => none
      | .ok false ρ2 => if vs.all (wipable ρ2) = true then lcL g t e vs ds (wipeE ρ2 vs) else none
      | _ => none
def eLc (iv : EvI) (g : EvG) (t : EvT) (e : EvE) (vs : List Nat) : EvE := fun ρ => (iv ρ).bind fun its ρ1 => if its.length ≤ lim ∧ vs.all (wipable ρ1) = true then (match lcL g t e vs its (wipeE ρ1 vs) with
  | some (xs, ρ2) => .ok (.tmp (.list xs)) (restore ρ1 ρ2 vs)
  | none => .bad) else .bad
structure DTs (X : Cx) (G : Gm) (W : Wi) (e : List Expr) (ev : EvT) : Prop where
  pt : PTs X e (dT G W ev)
theorem PTs_imp {e : List Expr} {t t' : TT} (h : PTs X e t) (i : ∀ σ H Q, t' σ H Q → t σ H Q) : PTs X e t' := ⟨fun pins s σ H Q I q => h.run pins s σ H Q I (i σ H Q q)⟩
def tTrue : EvT := fun ρ => .ok true ρ
theorem dts_nil : DTs X G W [] tTrue := ⟨PTs_imp pts_nil fun σ H Q ⟨Z, B, ρ, A, R, d⟩ => d H A R .refl⟩
theorem dts_one {c : Expr} {t : EvT} (h : DT X G W c t) : DTs X G W [c] t := ⟨pts_one h.pt⟩
/-- behind the block: the names ahead of it again -/
theorem Rep.restore {ρ' : Ev} {vs : List Nat} (R1 : Rep G Z' B σ H1 ρ1 A1) (R2 : Rep G Z B (L2.wipe σ vs) H2 ρ' A2) (x : Evo A1 H1 A2 H2) (zz : ∀ a, Z a → Z' a ∨ H1 a = none) (hw : vs.all (wipable ρ1) = true) : Rep G Z B σ H2 (restore ρ1 ρ' vs) A2 := by
  refine ⟨by rw [restore_len, R2.len, wipe_length], fun i => ?_, R2.inj, R2.apart, R2.zin, R2.ain, fun i a e => ?_, R2.tab⟩
  · rw [look_restore]
    by_cases hi : i ∈ vs ∧ i < ρ'.length
    · rw [if_pos hi]
      have q := R1.at_ i
      have w : wipable ρ1 i = true := List.all_eq_true.mp hw i hi.1
      have mono : ∀ {v : V} {d : PyData}, Fz (Oo Z' A1) H1 v d → Fz (Oo Z A2) H2 v d := fun {v d} h => h.mono (fun a o e n => x.keep a o e fun i z => n (.inr ⟨i, z⟩)) (fun a z => z.elim (fun z => (zz a z).elim (fun z => .inl (.inl z)) .inr) fun ⟨i, z⟩ => (x.sub i a z).elim (fun w => .inl (.inr w)) .inr) d
      cases l : look ρ1 i with
      | non => trivial
      | scr ns =>
        rw [l] at q
        obtain ⟨a, h1, h2⟩ := q
        exact ⟨a, h1, h2.mono (fun a o e n => x.keep a o e fun i z => n (.inr ⟨i, z⟩)) (fun a z => z.elim (fun z => (zz a z).elim (fun z => .inl (.inl z)) .inr) fun ⟨i, z⟩ => (x.sub i a z).elim (fun w => .inl (.inr w)) .inr)⟩
      | dat c k =>
        rw [l] at q
        cases k with
        | frz => obtain ⟨v, h1, h2⟩ := q; exact ⟨v, h1, mono h2⟩
        | own => unfold wipable at w; rw [l] at w; cases w
        | par => unfold wipable at w; rw [l] at w; cases w
    · rw [if_neg hi]
      have q := R2.at_ i
      by_cases hm : i ∈ vs
      · have hl : ¬ i < ρ'.length := fun z => hi ⟨hm, z⟩
        have : look ρ' i = .non := Classical.byContradiction fun z => hl (look_lt z)
        rw [this]; trivial
      · have es : σ[i]? = (L2.wipe σ vs)[i]? := (wipe_out' hm).symm
        exact q.other (fun _ z => z) rfl es
  · obtain ⟨d, h⟩ := R2.bpar i a e
    have hl : i < ρ'.length := look_lt (by rw [h]; simp)
    obtain ⟨d1, h1⟩ := R1.bpar i a e
    refine ⟨d, ?_⟩
    rw [look_restore, if_neg]
    · exact h
    · intro hi
      have w : wipable ρ1 i = true := List.all_eq_true.mp hw i hi.1
      unfold wipable at w; rw [h1] at w; cases w
/-- an object of Z is written -/
theorem Rep.updZ {D : Addr} {o u0 : HO} (R : Rep G (Zx Z D) B σ H ρ A) (eD : H D = some u0) (nD : NTC u0) : Rep G (Zx Z D) B σ (upd H D o) ρ A := by
  have kp : ∀ b u, H b = some u → ¬ Oo (Zx Z D) A b → Kp (upd H D o) b u := fun b u e n => .of (by
    rw [upd_ne (fun z => n (.inl (.inr z)))]; exact e)
  have dm : ∀ b, H b ≠ none → upd H D o b ≠ none := fun b n => by
    by_cases e : b = D
    · rw [e, upd_same]; simp
    · rw [upd_ne e]; exact n
  have ne : ∀ i b, A i = some b → b ≠ D := fun i b e z => R.apart i b e (.inr z)
  refine ⟨R.len, fun i => ?_, R.inj, R.apart, fun b z => dm b (R.zin b z), fun i b e => dm b (R.ain i b e), R.bpar, R.tab.upd eD nD⟩
  have q := R.at_ i
  cases l : look ρ i with
  | non => trivial
  | scr ns =>
    rw [l] at q
    obtain ⟨a, h1, h2⟩ := q
    exact ⟨a, h1, h2.mono kp fun _ z => .inl z⟩
  | dat c k =>
    rw [l] at q
    cases k with
    | frz => obtain ⟨w, h1, h2⟩ := q; exact ⟨w, h1, h2.mono kp (fun _ z => .inl z) c⟩
    | own => obtain ⟨b, h0, h1, h2⟩ := q; exact ⟨b, h0, h1, h2.mono kp (fun _ z => .inl z) fun u e => .of (by rw [upd_ne (ne i b h0)]; exact e)⟩
    | par => obtain ⟨b, h0, hb, h1, h2⟩ := q; exact ⟨b, h0, hb, h1, h2.mono kp (fun _ z => .inl z) fun u e => .of (by rw [upd_ne (ne i b h0)]; exact e)⟩
theorem Evo.updN {D : Addr} {o : HO} (n : H D = none) (x : Evo A H A1 H1) : Evo A H A1 (upd H1 D o) :=
  ⟨fun a u e k => (x.keep a u e k).trans fun w ew => by
    by_cases q : a = D
    · subst q; rw [e] at n; cases n
    · exact .of (by rw [upd_ne q]; exact ew), fun a e => (by
    by_cases q : a = D
    · rw [q, upd_same] at e; cases e
    · rw [upd_ne q] at e; exact x.dom a e), x.sub⟩
theorem FzA.updZ {D : Addr} {o : HO} {xs : List V} {ds : List PyData} (f : FzA (Oo (Zx Z D) A) H xs ds) : FzA (Oo (Zx Z D) A) (upd H D o) xs ds :=
  f.mono (fun b u e n => .of (by rw [upd_ne (fun z => n (.inl (.inr z)))]; exact e)) (fun _ z => .inl z) ds
theorem wipe_idem (σ : L2.St) (vs : List Nat) : L2.wipe (L2.wipe σ vs) vs = L2.wipe σ vs :=
  wipe_agr (ws := vs) ⟨wipe_length σ vs, fun i h => wipe_out' h⟩ vs fun _ h => h
theorem lc_ok {U : Bool} {iv : EvI} {g : EvG} {t : EvT} {ev : EvE} {ws vs : List Nat} (hw : ∀ i ∈ ws, i ∈ vs) (h : dE G W (eLc iv g t ev vs) σ H Q) : tLc (dI G W U iv) (dG G U ws g) (dT G Wn t) (dE G Wn (eEsc ev)) vs σ H Q := by
    obtain ⟨Z, B, ρ, A, R, d⟩ := h
    refine ⟨Z, B, ρ, A, R, ?_⟩
    unfold eLc at d
    cases e : iv ρ with
    | bad => rw [e] at d; exact d.elim
    | exc y ρ1 => rw [e] at d; exact d
    | ok its ρ1 =>
      rw [e] at d
      simp only [Ro.bind] at d
      by_cases hl : its.length ≤ lim ∧ vs.all (wipable ρ1) = true
      · rw [if_pos hl] at d
        intro J H1 A1 R1 x1 io
        have d1 := d.shift shift_E x1
        intro D hD
        have xD : Ext H1 (upd H1 D (.lst [])) := .new hD
        have R1D : Rep G (Zx Z D) B σ (upd H1 D (.lst [])) ρ1 A1 := R1.newZ xD hD (by rw [upd_same]; simp)
        obtain ⟨A2, R2, x2⟩ := R1D.wipe vs hl.2
        cases el : lcL g t ev vs its (wipeE ρ1 vs) with
        | none => simp only [el] at d1; exact d1.elim
        | some p =>
          obtain ⟨full, ρf⟩ := p
          simp only [el] at d1
          have x12 : Evo A1 H1 A2 (upd H1 D (.lst [])) := (Evo.ext xD).trans x2
          refine ⟨fun i m H' => i + m = its.length ∧ ∃ ρ' A' xs acc tail, Rep G (Zx Z D) B (L2.wipe σ vs) H' ρ' A' ∧ Evo A1 H1 A' H' ∧ H' D = some (.lst xs) ∧ FzA (Oo (Zx Z D) A') H' xs acc ∧ acc.length ≤ i ∧ lcL g t ev vs (its.drop i) ρ' = some (tail, ρf) ∧ acc ++ tail = full,
            ⟨its.length, by omega, _, A2, [], [], full, R2, x12, upd_same, .nil, Nat.le_refl _, el, rfl⟩, fun i m H' ⟨em, ρ', A', xs, acc, tail, R', x', hx, fx, la, et, ef⟩ => ?_⟩
          have zz : ∀ a, Zx Z D a → Z a ∨ H1 a = none := fun a z => z.elim .inl fun z => .inr (by rw [z]; exact hD)
          obtain ⟨go, stop, yld⟩ := io (Zx Z D) A' H' zz (fun a z => z.elim (R'.zin a) fun ⟨j, z⟩ => R'.ain j a z) x'
          by_cases hlt : i < its.length
          · have dr : its.drop i = its[i] :: its.drop (i + 1) := List.drop_eq_getElem_cons hlt
            rw [dr] at et
            unfold lcL at et
            refine .inr ⟨go i hlt, fun H2 => ∃ ρ' A' xs acc tail, Rep G (Zx Z D) B (L2.wipe σ vs) H2 ρ' A' ∧ Evo A1 H1 A' H2 ∧ H2 D = some (.lst xs) ∧ FzA (Oo (Zx Z D) A') H2 xs acc ∧ acc.length ≤ i + 1 ∧ lcL g t ev vs (its.drop (i + 1)) ρ' = some (tail, ρf) ∧ acc ++ tail = full, fun H2 q => ⟨m - 1, by omega, by omega, q⟩, fun y H2 hy => ?_⟩
            obtain ⟨y2, c, ec, fc⟩ := yld i y H2 hlt hy
            rw [List.getElem?_eq_getElem hlt] at ec; cases ec
            cases eg : g its[i] ρ' with
            | none => simp only [eg] at et; cases et
            | some ρ2 =>
              simp only [eg] at et
              have R2' := R'.ext y2
              refine ⟨Zx Z D, B, ρ', A', its[i], ρ2, R2', fc, eg, fun σ3 A3 R3 x3 ag => ?_⟩
              have ew : L2.wipe σ3 vs = L2.wipe σ vs := (wipe_agr ag vs hw).trans (wipe_idem σ vs)
              have x03 : Evo A1 H1 A3 H2 := (x'.trans (.ext y2)).trans x3
              have hx3 : H2 D = some (.lst xs) := y2 D _ hx
              have fx3 : FzA (Oo (Zx Z D) A3) H2 xs acc := x3.fzA (fx.ext y2)
              refine ⟨ew, Zx Z D, B, ρ2, A3, R3, ?_⟩
              cases t2 : t ρ2 with
              | bad => simp only [t2] at et; cases et
              | exc y ρ3 => simp only [t2] at et; cases et
              | ok b ρ3 =>
                cases b with
                | false =>
                  simp only [t2] at et
                  intro H4 A4 R4 x4
                  show if false = true then _ else _
                  rw [if_neg Bool.false_ne_true]
                  by_cases wq : vs.all (wipable ρ3) = true
                  · rw [if_pos wq] at et
                    obtain ⟨A5, R5, x5⟩ := R4.wipe vs wq
                    rw [ew] at R5
                    exact ⟨_, A5, xs, acc, tail, R5, (x03.trans x4).trans x5, x4.keep D _ hx3 fun j z => R3.apart j D z (.inr rfl), x5.fzA (x4.fzA fx3), by omega, et, ef⟩
                  · rw [if_neg wq] at et; cases et
                | true =>
                  simp only [t2] at et
                  intro H4 A4 R4 x4
                  show if true = true then _ else _
                  rw [if_pos rfl]
                  refine ⟨Zx Z D, B, ρ3, A4, R4, ?_⟩
                  cases e3 : eEsc ev ρ3 with
                  | bad => simp only [e3] at et; cases et
                  | exc y ρ4 => simp only [e3] at et; cases et
                  | ok r ρ4 =>
                    cases r with
                    | var _ => simp only [e3] at et; cases et
                    | tmp _ => simp only [e3] at et; cases et
                    | shr c =>
                      simp only [e3] at et
                      by_cases wq : vs.all (wipable ρ4) = true
                      · rw [if_pos wq] at et
                        cases et2 : lcL g t ev vs (its.drop (i + 1)) (wipeE ρ4 vs) with
                        | none => simp only [et2] at et; cases et
                        | some p2 =>
                          obtain ⟨tl, ρ5⟩ := p2
                          simp only [et2] at et
                          cases et
                          intro v H5 A5 R5 x5 f5
                          have x35 : Evo A3 H2 A5 H5 := x4.trans x5
                          have hx5 : H5 D = some (.lst xs) := x35.keep D _ hx3 fun j z => R3.apart j D z (.inr rfl)
                          have fx5 : FzA (Oo (Zx Z D) A5) H5 xs acc := x35.fzA fx3
                          have il : i < lim := Nat.lt_of_lt_of_le hlt hl.1
                          refine ⟨xs, hx5, by rw [fx5.len, ← lim_eq]; omega, ?_⟩
                          obtain ⟨A6, R6, x6⟩ := (R5.updZ (o := .lst (xs ++ [v])) hx5 ntc_lst).wipe vs wq
                          rw [ew] at R6
                          refine ⟨_, A6, xs ++ [v], acc ++ [c], tl, R6, (Evo.updN hD (x03.trans x35)).trans x6, upd_same, x6.fzA (FzA.updZ (fx5.append (.cons f5 .nil))), by rw [List.length_append, List.length_singleton]; omega, et2, by rw [List.append_assoc]; exact ef⟩
                      · rw [if_neg wq] at et; cases et
          · refine .inl ⟨stop i (by omega), ?_⟩
            have dr : its.drop i = [] := List.drop_eq_nil_of_le (by omega)
            rw [dr] at et
            unfold lcL at et
            cases et
            have eF : acc = full := by rw [← ef, List.append_nil]
            subst eF
            exact d1 D H' A' (R1.restore R' x' zz hl.2) x' hD ⟨xs, hx, fx⟩
      · rw [if_neg hl] at d; exact d.elim
theorem de_lc {U : Bool} {elt tg iter : Expr} {ifs : List Expr} {scope : Scope} {own : List (Str × Nat)} {pos : Pos} {iv : EvI} {g : EvG} {t : EvT} {ev : EvE} {ws : List Nat} (hc : X.calm = true) (hN : X.N.Nodup) (hi : DI X G W U tg iter iv) (ok : BlkOk X.N X.env.scope scope own) (hw : ∀ i ∈ ws, i ∈ own.map (·.2))
    (hg : ∀ (s : Shared) (H : Hp) (C : Addr) (cl : List (Str × Addr)) (fp : List Addr), DG (X.blk s H scope (compEnvC scope cl C X.env) fp) G U tg ws g) (ht : ∀ (s : Shared) (H : Hp) (C : Addr) (cl : List (Str × Addr)) (fp : List Addr), DTs (X.blk s H scope (compEnvC scope cl C X.env) fp) G Wn ifs t)
    (he : ∀ (s : Shared) (H : Hp) (C : Addr) (cl : List (Str × Addr)) (fp : List Addr), DE (X.blk s H scope (compEnvC scope cl C X.env) fp) G Wn elt ev) (hs : ∀ x, foldedSetIterable iter X.env x = pure x := by intro _; rfl) :
    DE X G W (.ListComp elt [⟨tg, iter, ifs, 0⟩] scope pos) (eLc iv g t ev (own.map (·.2))) :=
  ⟨PE_imp (pe_lc hc hN hi.pi ok (fun s H C cl fp => (hg s H C cl fp).pg) (fun s H C cl fp => (ht s H C cl fp).pt) (fun s H C cl fp => (de_esc (he s H C cl fp)).pe) hs) fun σ H Q h => lc_ok hw h⟩
theorem ds_setLc {U : Bool} {i : Nat} {y : Str} {py : Pos} {elt tg iter : Expr} {ifs : List Expr} {scope : Scope} {own : List (Str × Nat)} {pos spos : Pos} {iv : EvI} {g : EvG} {t : EvT} {ev : EvE} {ws : List Nat} (hc : X.calm = true) (hN : X.N.Nodup) (hy : X.N[i]? = some y) (hyl : X.env.scope.names.lookup y = some .local)
    (hsw : swapsWith (.ListComp elt [⟨tg, iter, ifs, 0⟩] scope pos) (some (.Name y py)) spos.line X.env = pure true) (hi : DI X G W U tg iter iv) (ok : BlkOk X.N X.env.scope scope own) (hw : ∀ i ∈ ws, i ∈ own.map (·.2))
    (hg : ∀ (s : Shared) (H : Hp) (C : Addr) (cl : List (Str × Addr)) (fp : List Addr), DG (X.blk s H scope (compEnvC scope cl C X.env) fp) G U tg ws g) (ht : ∀ (s : Shared) (H : Hp) (C : Addr) (cl : List (Str × Addr)) (fp : List Addr), DTs (X.blk s H scope (compEnvC scope cl C X.env) fp) G Wn ifs t)
    (he : ∀ (s : Shared) (H : Hp) (C : Addr) (cl : List (Str × Addr)) (fp : List Addr), DE (X.blk s H scope (compEnvC scope cl C X.env) fp) G Wn elt ev) (hs : ∀ x, foldedSetIterable iter X.env x = pure x := by intro _; rfl) :
    DS X G W (.Assign [.Name y py] (.ListComp elt [⟨tg, iter, ifs, 0⟩] scope pos) spos) (sSet i (eLc iv g t ev (own.map (·.2)))) :=
  ⟨PS_imp (ps_setLc hc hN hy hyl hsw hi.pi ok (fun s H C cl fp => (hg s H C cl fp).pg) (fun s H C cl fp => (ht s H C cl fp).pt) (fun s H C cl fp => (de_esc (he s H C cl fp)).pe) hs) fun D σ H ⟨Z, B, ρ, A, R, d⟩ => lc_ok hw (set_ok R d)⟩
end
end DL

namespace DL
open PySem PySem.Spec PyProof.Rows L2
/-! ### defs, where nothing is being shown (repr) around -/
structure FnG (P : Program) (w : World) (K : PySem.W.Frag) (mg : Str → Option Value) (base : Heap) (CX : CXT) (k : Nat) (f : Addr) (fd : FuncData) (ps : List Str) (sp : Sp) : Prop where
  len : ∀ vs H Q E, sp vs H Q E → vs.length = ps.length
  run : ∀ (A : Around) (outer : List Env) (s : Shared) (H : Hp) (args : Args) (us : List Value) (vs : List V) (Q : VK) (E : XK), Room k A → A.guards = some [] → Env0 P w K mg base A outer s H →
    BindsTo s fd args (ps.zip us) → Vals vs us → sp vs H Q E → codeAny (model P w) A (.call (.ref f) args) (CR CX outer P w H s Q E) s
theorem FnG.imp {P : Program} {w : World} {K : PySem.W.Frag} {mg : Str → Option Value} {base : Heap} {CX : CXT} {k : Nat} {f : Addr} {fd : FuncData} {ps : List Str} {sp sp' : Sp} (F : FnG P w K mg base CX k f fd ps sp)
    (h : ∀ vs H Q E, sp' vs H Q E → sp vs H Q E) : FnG P w K mg base CX k f fd ps sp' :=
  ⟨fun vs H Q E q => F.len vs H Q E (h _ _ _ _ q), fun A outer s H args us vs Q E hr hG he hb hv hs => F.run A outer s H args us vs Q E hr hG he hb hv (h _ _ _ _ hs)⟩
theorem FnG.mono {P : Program} {w : World} {K : PySem.W.Frag} {mg : Str → Option Value} {base : Heap} {CX : CXT} {j k : Nat} {f : Addr} {fd : FuncData} {ps : List Str} {sp : Sp} (F : FnG P w K mg base CX j f fd ps sp) (h : j ≤ k) :
    FnG P w K mg base CX k f fd ps sp := ⟨F.len, fun A outer s H args us vs Q E hr => F.run A outer s H args us vs Q E (hr.mono h)⟩
section
variable {P : Program} {w : World} {K : PySem.W.Frag} {mg : Str → Option Value} {base : Heap} {CX : CXT}
/-- a def by its body -/
theorem fnG_of {k : Nat} {f : Addr} {name qual : Str} {params : Arguments} {body : List Stmt} {scope : Scope} {dV kV doc pm cdv ct oc : Value} {an od : Option Addr} {osl : Array (Option Value)} {N ps : List Str} {sp : Sp}
    (lk : K.lookup f = some ⟨oc, od, .func (PySem.W.fnOf name qual params body scope dV kV doc pm an cdv ct), osl⟩) (hcd : PySem.W.codeIn K cdv qual = true) (S : FnScope N ps scope)
    (len : ∀ vs H Q E, sp vs H Q E → vs.length = ps.length)
    (hbody : ∀ (A : Around) (outer : List Env) (s : Shared) (H : Hp) (vs : List V) (Q : VK) (E : XK), Room k (A.deeper (envOfC qual scope s.heap.objs.size f cdv)) → A.guards = some [] → sp vs H Q E →
      ∃ t, PSs (cxOf CX P w K mg base N qual scope f cdv A outer s H E) body t ∧ t { nx := fun _ H' => Q .non H', rt := Q } (start N vs) H) :
    FnG P w K mg base CX (k + 1) f (PySem.W.fnOf name qual params body scope dV kV doc pm an cdv ct) ps sp := by
  constructor
  · exact len
  intro A outer s H args us vs Q E room gd e0 bd rv hsp
  have hl := len _ _ _ _ hsp
  have inK : K.In s.heap := e0.mod.kin.keeps fun b o e => And.left (e0.bs b o e)
  have noLim : s.heap.NoLimit := e0.mod.nolimit.keeps fun b o e => And.left (e0.bs b o e)
  have kinds : ∀ y ∈ ps.zip us, scope.names.lookup y.1 = some .local ∨ (scope.names.lookup y.1 = some .cell ∧ ((cellsFrom (s.heap.objs.size + 1) scope.names []).lookup y.1).isSome = true) := by
    rintro ⟨n, v⟩ hy
    cases S.par n (List.of_mem_zip hy).1 with
    | inl q => exact Or.inl q
    | inr q => exact Or.inr ⟨q, PySem.W.cellsFrom_some _ _ _ (Or.inl q)⟩
  refine codeAny_call_function room.depth (inK _ _ lk) rfl S.co S.gen rfl (PySem.W.codeRec_of inK hcd) (bd _ _ _ _ (wpAny_newFunctionEnv_cells S.kind kinds fun env he s1 x => ?_))
  subst he
  refine ⟨noLim.keeps x.toInCall.keep, codeAny_func ?_⟩
  obtain ⟨t, ht, hq⟩ := hbody A outer s H vs Q E (room.deeper _) gd hsp
  have I := inv_start (E := E) (CX := CX) S room.hd e0 hl rv x
  refine wpAny_mono (ht.run [] s1 _ H _ I hq) (fun fl s' hs => ?_) (fun e s' hs => hs)
  cases fl with
  | ret u =>
    obtain ⟨v, σ', H', J, r1, q⟩ := hs
    exact ⟨v, H', J.os, J.bare, J.base, J.hok, r1, q⟩
  | next =>
    obtain ⟨σ', H', J, q⟩ := hs
    exact ⟨V.non, H', J.os, J.bare, J.base, J.hok, rfl, q⟩
  | brk => exact (hs.choose_spec.choose_spec.2 : False).elim
  | cont => exact (hs.choose_spec.choose_spec.2 : False).elim
end
section
variable {X : Cx} {CX : CXT} {k : Nat} {f : Addr} {fd : FuncData} {ps : List Str} {sp : Sp} {dvs : List V} {ds : List Value} {E : L2.St → XK} {x : Str} {p pos : Pos} {e : Expr} {es : List Expr} {t : TA}
/-- the callee runs; keywords' values ws of the names ks, all put in order by g -/
theorem runG {pins : List (Addr × Obj)} {σ : L2.St} {H : Hp} {s : Shared} {Q : VK} {a : Args} {us : List Value} {vs : List V} (F : FnG X.prog X.w X.K X.mg X.base CX k f fd ps sp) (room : Room k X.A) (gd : X.A.guards = some []) (bd : BindsTo s fd a (ps.zip us))
    (pass : PassesAt CX X σ (E σ)) (I : Inv X pins σ H s) (rv : Vals vs us) (h : sp vs H Q (E σ)) : codeAny (model X.prog X.w) X.A (.call (.ref f) a) (fun r s' => match r with
      | .ok (.ret u) => EP X pins σ Q u s'
      | .ok _ => False
      | .error e => X.xe e s') s := by
  refine codeAny_mono (F.run X.A X.stack s H a us vs Q (E σ) room gd I.env0 bd rv h) fun r s' hq => ?_
  match r, hq with
  | .error e, hq => exact pass pins H s e s' I hq
  | .ok (.ret u), hq => exact I.after hq
  | .ok .next, hq => exact hq.elim
  | .ok .brk, hq => exact hq.elim
  | .ok .cont, hq => exact hq.elim
def tCallG (sp : Sp) (dvs : List V) (E : L2.St → XK) (t : TA) : TE := fun σ H Q => t σ H fun vs H1 => sp (vs ++ dvs) H1 Q (E σ)
theorem pe_callG (F : FnG X.prog X.w X.K X.mg X.base CX k f fd ps sp) (hr : Room k X.A) (hG : X.A.guards = some []) (hg : Gl X x) (hm : X.mg x = some (.ref f)) (hk : PySem.W.keepIn X.K (.ref f) = true) (hb : Binds X.K fd ps ds) (hd : Vals dvs ds) (hx : ∀ σ, PassesAt CX X σ (E σ))
    (ha : PA X (e :: es) t) (hdb : (x == ("__debug__" : Str)) = false := by decide) (he : starEach (e :: es) X.env = (false, eval e X.env) :: starEach es X.env := by rfl) (hpl : (backTo pos (starEach es X.env)).any (·.1) = false := by rfl) :
    PE X (.Call (.Name x p) (e :: es) [] pos) (tCallG sp dvs E t) := by
  constructor
  intro pins s σ H Q I h
  refine wpAny_Call_Name_kw (ld_glob I hg hm (PySem.W.callWith_K (h₀ := X.base) I.ok.mod.kin hk (thn (ha.run pos pins s σ H _ I h) fun us s1 ⟨vs, H1, I1, r1, q1⟩ => ⟨I1.kIn, ?_⟩) he hpl) hdb)
  have r2 : Vals (vs ++ dvs) (us ++ ds) := Vals.append r1 hd
  have hl : (us ++ ds).length = ps.length := by rw [← r2.length]; exact F.len _ _ _ _ q1
  refine wpAny_call (codeAny_mono (runG (E := E) F hr hG (hb s1 us I1.kIn hl) (hx σ) I1 r2 q1) fun r s' hq => ?_)
  match r, hq with
  | .error e, hq => exact hq
  | .ok (.ret u), hq => exact hq
theorem pe_callG0 (F : FnG X.prog X.w X.K X.mg X.base CX k f fd ps sp) (hr : Room k X.A) (hG : X.A.guards = some []) (hg : Gl X x) (hm : X.mg x = some (.ref f)) (hk : PySem.W.keepIn X.K (.ref f) = true) (hb : Binds X.K fd ps ds) (hd : Vals dvs ds) (hx : ∀ σ, PassesAt CX X σ (E σ))
    (hdb : (x == ("__debug__" : Str)) = false := by decide) : PE X (.Call (.Name x p) [] [] pos) (tCallG sp dvs E tNil) := by
  constructor
  intro pins s σ H Q I h
  refine wpAny_Call_Name_kw (ld_glob I hg hm (PySem.W.callWith_K0 I.kIn hk ?_) hdb)
  have hl : (([] : List Value) ++ ds).length = ps.length := by rw [← (Vals.append (.nil) hd).length]; exact F.len _ _ _ _ h
  refine wpAny_call (codeAny_mono (runG (E := E) F hr hG (hb s [] I.kIn hl) (hx σ) I (Vals.append .nil hd) h) fun r s' hq => ?_)
  match r, hq with
  | .error e, hq => exact hq
  | .ok (.ret u), hq => exact hq
/-- keywords alone -/
def tCallGK (sp : Sp) (gV : List V → List V → List V) (E : L2.St → XK) (tk : TA) : TE := fun σ H Q => tk σ H fun zs H2 => sp (gV [] zs) H2 Q (E σ)
theorem pe_callGK {kws : List Keyword} {ks : List Str} {tk : TA} {g : List Value → List Value → List Value} {gV : List V → List V → List V} (F : FnG X.prog X.w X.K X.mg X.base CX k f fd ps sp) (hr : Room k X.A) (hG : X.A.guards = some []) (hg : Gl X x) (hm : X.mg x = some (.ref f)) (hk : PySem.W.keepIn X.K (.ref f) = true) (hb : KBinds X.K fd ps ks g gV) (hx : ∀ σ, PassesAt CX X σ (E σ))
    (hkw : PK X kws tk) (hall : (backToKw pos (keywordEach kws X.env)).all (·.1.isSome) = true := by rfl) (hks : (backToKw pos (keywordEach kws X.env)).filterMap (·.1) = ks := by rfl)
    (hpl : ((backTo pos (starEach [] X.env)).any (·.1) || (backToKw pos (keywordEach kws X.env)).any (·.1.isNone)) = false := by rfl) (hdb : (x == ("__debug__" : Str)) = false := by decide) :
    PE X (.Call (.Name x p) [] kws pos) (tCallGK sp gV E tk) := by
  constructor
  intro pins s σ H Q I h
  refine wpAny_Call_Name_kw (ld_glob I hg hm (PySem.W.callWith_KW0 (h₀ := X.base) I.ok.mod.kin hk hall (thn (hkw.run pos pins s σ H _ I h) fun ws s2 ⟨zs, H2, I2, rz, q2⟩ => ⟨I2.kIn, ?_⟩) hpl) hdb)
  rw [hks]
  have r2 := hb.rel (vs := []) (us := []) .nil rz
  have hl : (g [] ws).length = ps.length := by rw [← r2.length]; exact F.len _ _ _ _ q2
  refine wpAny_call (codeAny_mono (runG (E := E) F hr hG (hb.to s2 [] ws I2.kIn hl) (hx σ) I2 r2 q2) fun r s' hq => ?_)
  match r, hq with
  | .error e, hq => exact hq
  | .ok (.ret u), hq => exact hq
end
end DL

namespace DL
open PySem PySem.Spec PyProof.Rows L2
/-! ### a def's promise by a function on data: final slots of the parameters behind it -/
abbrev FnD := Ev → Ro RV
def CEnd (G : Gm) (Z : Ow) (B : Nat → Option Addr) (vs : List V) (H : Hp) (Q : VK) (E : XK) : Ro RV → Prop
  | .ok (.shr d) outs => ∀ v H', Rep G Z B (vs.map some) H' outs B → Evo B H B H' → Fz (Oo Z B) H' v d → Q v H'
  | .ok (.tmp d) outs => ∀ a H', Rep G (Zx Z a) B (vs.map some) H' outs B → Evo B H B H' → H a = none → Ob (Oo (Zx Z a) B) H' a d → Q (.ref a) H'
  | .ok (.var _) _ => False
  | .exc x outs => ∀ cv dx H', Rep G Z B (vs.map some) H' outs B → Evo B H B H' → ExR G (Oo Z B) H' x cv dx → E cv dx H'
  | .bad => False
def spD (G : Gm) (np : Nat) (F : FnD) : Sp := fun vs H Q E => vs.length = np ∧ ∃ Z B args, Rep G Z B (vs.map some) H args B ∧ CEnd G Z B vs H Q E (F args)
def outS : Sl → Sl
  | .dat d .par => .dat d .par
  | _ => .non
def outs : Nat → Ev → Ev
  | 0, _ => []
  | n + 1, [] => .non :: outs n []
  | n + 1, s :: r => outS s :: outs n r
theorem outs_len : ∀ (n : Nat) (ρ : Ev), (outs n ρ).length = n
  | 0, _ => rfl
  | n + 1, [] => by show (outs n []).length + 1 = n + 1; rw [outs_len n []]
  | n + 1, s :: r => by show (outs n r).length + 1 = n + 1; rw [outs_len n r]
theorem look_outs : ∀ (n : Nat) (ρ : Ev) (i : Nat), look (outs n ρ) i = if i < n then outS (look ρ i) else .non
  | 0, _, i => by simp [outs, look]
  | n + 1, [], 0 => by simp [outs, look, outS]
  | n + 1, [], i + 1 => by
    show look (outs n []) i = _
    rw [look_outs n [] i]
    simp [look, outS]
  | n + 1, s :: r, 0 => by simp [outs, look]
  | n + 1, s :: r, i + 1 => by
    show look (outs n r) i = _
    rw [look_outs n r i]
    by_cases h : i < n
    · rw [if_pos h, if_pos (Nat.succ_lt_succ h)]; rfl
    · rw [if_neg h, if_neg (fun z => h (Nat.lt_of_succ_lt_succ z))]
/-- the body's function, with n slots, of which the first np are the parameters -/
def defF (np n : Nat) (body : EvS) : FnD := fun args => if args.length = np then (match body (args ++ List.replicate (n - np) .non) with
  | .ok .nx ρ => .ok (.shr .none) (outs np ρ)
  | .ok (.ret r) ρ => .ok r (outs np ρ)
  | .exc x ρ => .exc x (outs np ρ)
  | _ => .bad) else .bad
section
variable {X : Cx} {G : Gm} {W : Wi} {Z Z' : Ow} {B A A1 A2 A0 : Nat → Option Addr} {σ σ1 : L2.St} {H H1 H2 H0 : Hp} {ρ ρ1 ρ2 : Ev} {Q : VK} {v : V} {r : RV} {D D' : Ends}
theorem look_app : ∀ (ρ τ : Ev) (i : Nat), look (ρ ++ τ) i = if i < ρ.length then look ρ i else look τ (i - ρ.length)
  | [], τ, i => by simp
  | s :: r, τ, 0 => by simp [look]
  | s :: r, τ, i + 1 => by
    show look (r ++ τ) i = _
    rw [look_app r τ i]
    by_cases h : i < r.length
    · rw [if_pos h, if_pos (by simpa using h)]; rfl
    · rw [if_neg h, if_neg (by simpa using h), List.length_cons, Nat.add_sub_add_right]
theorem look_rep (n i : Nat) : look (List.replicate n .non) i = .non := by
  induction n generalizing i with
  | zero => rfl
  | succ n ih =>
    cases i with
    | zero => rfl
    | succ i => exact ih i
theorem start_get {N : List Str} {vs : List V} {i : Nat} (h : i < vs.length) : (L2.start N vs)[i]? = (vs.map some)[i]? := by
  unfold L2.start
  rw [List.getElem?_append_left (by simpa using h)]
theorem Rep.begin {vs : List V} {args : Ev} {N : List Str} (R : Rep G Z B (vs.map some) H args A) (hN : vs.length ≤ N.length) : Rep G Z B (L2.start N vs) H (args ++ List.replicate (N.length - vs.length) .non) A := by
  have hl : args.length = vs.length := by rw [R.len, List.length_map]
  refine ⟨by unfold L2.start; simp [hl], fun i => ?_, R.inj, R.apart, R.zin, R.ain, fun i a e => ?_, R.tab⟩
  · rw [look_app]
    by_cases h : i < args.length
    · rw [if_pos h]
      exact (R.at_ i).other (fun _ z => z) rfl (start_get (by rw [← hl]; exact h))
    · rw [if_neg h, look_rep]; trivial
  · obtain ⟨d, h⟩ := R.bpar i a e
    have : i < args.length := look_lt (by rw [h]; simp)
    exact ⟨d, by rw [look_app, if_pos this]; exact h⟩
/-- at the end: the parameters' lists -/
theorem Rep.outs {vs : List V} {σ' : L2.St} {ρ' : Ev} {np : Nat} (R0 : ∃ args, Rep G Z' B (vs.map some) H args B) (R : Rep G Z B σ' H1 ρ' A1) (x : Evo B H A1 H1) (hl : vs.length = np) :
    Rep G Z B (vs.map some) H1 (outs np ρ') B ∧ (∀ a, Oo Z B a → Oo Z A1 a) := by
  obtain ⟨args, R0⟩ := R0
  have ba : ∀ i a, B i = some a → A1 i = some a ∧ i < np ∧ (vs.map some)[i]? = some (some (.ref a)) ∧ ∃ d, look ρ' i = .dat d .par ∧ Ob (Oo Z A1) H1 a d := fun i a e => by
    obtain ⟨d, h⟩ := R.bpar i a e
    have q := R.at_ i
    rw [h] at q
    obtain ⟨b, h0, hb, h1, h2⟩ := q
    rw [e] at hb; cases hb
    obtain ⟨d0, g0⟩ := R0.bpar i a e
    have q0 := R0.at_ i
    rw [g0] at q0
    obtain ⟨b0, k0, kb, k1, _⟩ := q0
    rw [e] at kb; cases kb
    have hi : i < (vs.map some).length := (List.getElem?_eq_some_iff.mp k1).1
    exact ⟨h0, by rw [← hl]; simpa using hi, k1, d, h, h2⟩
  have sub : ∀ a, Oo Z B a → Oo Z A1 a := fun a z => z.elim .inl fun ⟨i, e⟩ => .inr ⟨i, (ba i a e).1⟩
  refine ⟨⟨by rw [outs_len, List.length_map, hl], fun i => ?_, fun i j a e f => R0.inj i j a e f, fun i a e => R.apart i a (ba i a e).1, R.zin, fun i a e => R.ain i a (ba i a e).1, fun i a e => ?_, R.tab⟩, sub⟩
  · rw [look_outs]
    by_cases h : i < np
    · rw [if_pos h]
      cases l : look ρ' i with
      | non => trivial
      | scr ns => trivial
      | dat d k =>
        cases k with
        | frz => trivial
        | own => trivial
        | par =>
          have q := R.at_ i
          rw [l] at q
          obtain ⟨b, h0, hb, h1, h2⟩ := q
          obtain ⟨_, _, k1, _⟩ := ba i b hb
          exact ⟨b, hb, hb, k1, h2.weak sub⟩
    · rw [if_neg h]; trivial
  · obtain ⟨_, hi, _, d, h, _⟩ := ba i a e
    exact ⟨d, by rw [look_outs, if_pos hi, h]; rfl⟩
theorem evo_out {vs : List V} (x : Evo B H A1 H1) : Evo B H B H1 := ⟨x.keep, x.dom, fun i a e => .inl ⟨i, e⟩⟩
/-- from the promise to the body's reading -/
theorem body_end {G : Gm} {Z : Ow} {B : Nat → Option Addr} {H : Hp} {Q : VK} {E : XK} {N ps : List Str} {vs : List V} {args : Ev} {body : EvS} (R : Rep G Z B (vs.map some) H args B) (hl : vs.length = ps.length) (hpl : ps.length ≤ N.length)
    (c : CEnd G Z B vs H Q E (defF ps.length N.length body args)) : ∃ Z B ρ A, Rep G Z B (L2.start N vs) H ρ A ∧ ρ = args ++ List.replicate (N.length - ps.length) .non ∧ SDn G (fun cv dx _ H' => E cv dx H') Z B { nx := fun _ H' => Q .non H', rt := Q } H A (body ρ) := by
  refine ⟨Z, B, args ++ List.replicate (N.length - ps.length) .non, B, ?_, rfl, ?_⟩
  · rw [← hl]; exact R.begin (by rw [hl]; exact hpl)
  have ha : args.length = ps.length := by rw [R.len, List.length_map, hl]
  unfold defF at c
  rw [if_pos ha] at c
  have R0 : ∃ args, Rep G Z B (vs.map some) H args B := ⟨args, R⟩
  cases e : body (args ++ List.replicate (N.length - ps.length) .non) with
  | bad => rw [e] at c; exact c.elim
  | exc y ρ' =>
    rw [e] at c
    intro cv dx σ' H' A' R' x q
    obtain ⟨R2, sub⟩ := Rep.outs R0 R' x hl
    refine c cv dx H' R2 (evo_out (vs := vs) x) ?_
    obtain ⟨C, h1, h2, h3⟩ := q
    refine ⟨C, h1, h2, ?_⟩
    cases hd : y.d with
    | none => rw [hd] at h3; exact h3
    | some dd =>
      rw [hd] at h3
      obtain ⟨p, w, g1, g2, g3, g4⟩ := h3
      exact ⟨p, w, g1, g2, fun z => g3 (sub _ z), g4.weak sub⟩
  | ok fl ρ' =>
    rw [e] at c
    cases fl with
    | nx =>
      intro σ' H' A' R' x
      obtain ⟨R2, sub⟩ := Rep.outs R0 R' x hl
      exact c .non H' R2 (evo_out (vs := vs) x) .non
    | brk => exact c.elim
    | ct => exact c.elim
    | ret r =>
      cases r with
      | shr d =>
        intro v σ' H' A' R' x f
        obtain ⟨R2, sub⟩ := Rep.outs R0 R' x hl
        exact c v H' R2 (evo_out (vs := vs) x) (f.weak sub)
      | tmp d =>
        intro a σ' H' A' R' x nz n o
        obtain ⟨R2, sub⟩ := Rep.outs (Z' := Z) R0 R' x hl
        have na : H a = none := by
          rcases n with ⟨j, hj⟩ | n
          · obtain ⟨d1, g1⟩ := R'.bpar j a hj
            have q := R'.at_ j
            rw [g1] at q
            obtain ⟨b, h0, hb, _⟩ := q
            rw [hj] at hb; cases hb
            exact absurd (.inr rfl) (R'.apart j a h0)
          · exact n
        exact c a H' R2 (evo_out (vs := vs) x) na (o.weak sub)
      | var i => exact c.elim
/-- a def of the text keeps its function's promise -/
theorem ok_def {P : Program} {w : World} {K : PySem.W.Frag} {mg : Str → Option Value} {base : Heap} {CX : CXT} {G : Gm} {k : Nat} {f : Addr} {fd : FuncData} {N ps : List Str} {name qual : Str} {st : Stmt} {body : EvS} (F : Fun K name qual st f fd) (S : FnScope N ps (defScope st))
    (hb : ∀ (cdv : Value) (A : Around) (outer : List Env) (s : Shared) (H : Hp) (E : XK), Room k (A.deeper (envOfC qual (defScope st) s.heap.objs.size f cdv)) → A.guards = some [] →
      DSs (cxOf CX P w K mg base N qual (defScope st) f cdv A outer s H E) G (fun cv dx _ H' => E cv dx H') (defBody st) body) :
    FnG P w K mg base CX (k + 1) f fd ps (spD G ps.length (defF ps.length N.length body)) := by
  obtain ⟨oc, od, kV, doc, pm, an, cdv, ct, osl, rfl, lk, hcd⟩ := F.ex
  have hpl : ps.length ≤ N.length := by
    have := congrArg List.length S.pre
    rw [List.length_take] at this
    omega
  refine fnG_of lk hcd S (fun vs H Q E h => h.1) fun A outer s H vs Q E hr hG ⟨hl, Z, B, args, R, c⟩ => ?_
  obtain ⟨Z1, B1, ρ1, A1, R1, _, d1⟩ := body_end (E := E) R hl hpl c
  exact ⟨_, (hb cdv A outer s H E hr hG).pss, Z1, B1, ρ1, A1, R1, d1⟩

/-! ### a call of a def of the text -/
def refd : Sl → Bool
  | .dat _ .own => true
  | .dat _ .par => true
  | _ => false
def kdOf : Sl → Kd
  | .dat _ k => k
  | _ => .frz
def argS : Sl → Sl
  | .dat d .frz => .dat d .frz
  | .dat d _ => .dat d .par
  | .scr ns => .scr ns
  | .non => .non
def argOf (ρ : Ev) : RV → Sl
  | .shr d => .dat d .frz
  | .tmp d => .dat d .frz
  | .var i => argS (look ρ i)
def refIx (ρ : Ev) : List RV → List Nat
  | [] => []
  | .var i :: rs => if refd (look ρ i) = true then i :: refIx ρ rs else refIx ρ rs
  | _ :: rs => refIx ρ rs
def nodupB : List Nat → Bool
  | [] => true
  | i :: r => !r.contains i && nodupB r
theorem nodup_of : ∀ {l : List Nat}, nodupB l = true → l.Nodup
  | [], _ => .nil
  | i :: r, h => by
    unfold nodupB at h
    rw [Bool.and_eq_true] at h
    refine List.nodup_cons.mpr ⟨fun z => ?_, nodup_of h.2⟩
    have := h.1
    rw [List.contains_iff_mem.mpr z] at this
    cases this
theorem refIx_var {ρ : Ev} {i : Nat} {rs : List RV} : refIx ρ (.var i :: rs) = if refd (look ρ i) = true then i :: refIx ρ rs else refIx ρ rs := rfl
def backs (ρ : Ev) : List RV → List Sl → Option Ev
  | [], _ => some ρ
  | .var i :: rs, o :: os => if refd (look ρ i) = true then (match o with
      | .dat d .par => backs (put ρ i (.dat d (kdOf (look ρ i)))) rs os
      | _ => none) else backs ρ rs os
  | _ :: rs, _ :: os => backs ρ rs os
  | _ :: _, [] => none
def eCall (F : FnD) (a : EvA) : EvE := fun ρ => (a ρ).bind fun rs ρ1 => if nodupB (refIx ρ1 rs) = true then (match F (rs.map (argOf ρ1)) with
  | .ok r os => (match r with
    | .var _ => .bad
    | r => match backs ρ1 rs os with
      | some ρ2 => .ok r ρ2
      | none => .bad)
  | .exc x os => (match backs ρ1 rs os with
      | some ρ2 => .exc x ρ2
      | none => .bad)
  | .bad => .bad) else .bad
def bOf (ρ : Ev) (A : Nat → Option Addr) (rs : List RV) : Nat → Option Addr := fun j => match rs[j]? with
  | some (.var i) => if refd (look ρ i) = true then A i else none
  | _ => none
theorem bOf_some {rs : List RV} {j : Nat} {a : Addr} (h : bOf ρ A rs j = some a) : ∃ i, rs[j]? = some (.var i) ∧ refd (look ρ i) = true ∧ A i = some a := by
  unfold bOf at h
  cases q : rs[j]? with
  | none => rw [q] at h; cases h
  | some r =>
    rw [q] at h
    cases r with
    | shr _ => cases h
    | tmp _ => cases h
    | var i =>
      by_cases e : refd (look ρ i) = true
      · simp only [if_pos e] at h; exact ⟨i, rfl, e, h⟩
      · simp only [if_neg e] at h; cases h
theorem mem_refIx {i : Nat} : ∀ {rs : List RV} {j : Nat}, rs[j]? = some (.var i) → refd (look ρ i) = true → i ∈ refIx ρ rs
  | [], j, h, _ => by simp at h
  | r :: rs, 0, h, e => by
    simp at h; subst h
    unfold refIx; rw [if_pos e]; exact List.mem_cons_self ..
  | r :: rs, j + 1, h, e => by
    have ih := mem_refIx (rs := rs) (j := j) (by simpa using h) e
    cases r with
    | shr _ => exact ih
    | tmp _ => exact ih
    | var k =>
      unfold refIx
      split
      · exact List.mem_cons_of_mem _ ih
      · exact ih
theorem refIx_inj {i : Nat} : ∀ {rs : List RV} {j k : Nat}, (refIx ρ rs).Nodup → rs[j]? = some (.var i) → rs[k]? = some (.var i) → refd (look ρ i) = true → j = k
  | [], j, k, _, h, _, _ => by simp at h
  | r :: rs, 0, 0, _, _, _, _ => rfl
  | r :: rs, 0, k + 1, nd, h, g, e => by
    simp at h; subst h
    unfold refIx at nd; rw [if_pos e] at nd
    exact absurd (mem_refIx (by simpa using g) e) (List.nodup_cons.mp nd).1
  | r :: rs, j + 1, 0, nd, h, g, e => by
    simp at g; subst g
    unfold refIx at nd; rw [if_pos e] at nd
    exact absurd (mem_refIx (by simpa using h) e) (List.nodup_cons.mp nd).1
  | r :: rs, j + 1, k + 1, nd, h, g, e => by
    have nd' : (refIx ρ rs).Nodup := by
      cases r with
      | shr _ => exact nd
      | tmp _ => exact nd
      | var m =>
        unfold refIx at nd
        split at nd
        · exact (List.nodup_cons.mp nd).2
        · exact nd
    exact congrArg (· + 1) (refIx_inj (rs := rs) (i := i) nd' (by simpa using h) (by simpa using g) e)
theorem refIx_put {m : Nat} {d : PyData} (hm : refd (look ρ m) = true) : ∀ rs : List RV, refIx (put ρ m (.dat d (kdOf (look ρ m)))) rs = refIx ρ rs := by
  have key : ∀ i, refd (look (put ρ m (.dat d (kdOf (look ρ m)))) i) = refd (look ρ i) := fun i => by
    by_cases e : i = m
    · subst e
      cases l : look ρ i with
      | non => rw [l] at hm; cases hm
      | scr _ => rw [l] at hm; cases hm
      | dat c k =>
        rw [look_put_same (look_lt (by rw [l]; simp))]
        rw [l] at hm
        cases k <;> first | rfl | cases hm
    · rw [look_put_ne e]
  intro rs
  induction rs with
  | nil => rfl
  | cons r rs ih =>
    cases r with
    | shr _ => exact ih
    | tmp _ => exact ih
    | var i => rw [refIx_var, refIx_var, key i, ih]
/-- what the slots are behind -/
theorem backs_look : ∀ {rs : List RV} {os : List Sl} {ρ ρ' : Ev}, (refIx ρ rs).Nodup → backs ρ rs os = some ρ' → ρ'.length = ρ.length ∧ (∀ i, i ∉ refIx ρ rs → look ρ' i = look ρ i) ∧
    ∀ (j : Nat) (i : Nat), rs[j]? = some (.var i) → refd (look ρ i) = true → ∃ d, os[j]? = some (.dat d .par) ∧ look ρ' i = .dat d (kdOf (look ρ i))
  | [], os, ρ, ρ', _, h => by
    have h' : some ρ = some ρ' := by rw [← h]; cases os <;> rfl
    cases h'
    exact ⟨rfl, fun _ _ => rfl, fun j i e => by simp at e⟩
  | r :: rs, [], ρ, ρ', _, h => by cases r <;> (unfold backs at h; cases h)
  | r :: rs, o :: os, ρ, ρ', nd, h => by
    have skip : backs ρ rs os = some ρ' → refIx ρ (r :: rs) = refIx ρ rs → (∀ i, r = .var i → ¬ refd (look ρ i) = true) → ρ'.length = ρ.length ∧ (∀ i, i ∉ refIx ρ (r :: rs) → look ρ' i = look ρ i) ∧
        ∀ (j : Nat) (i : Nat), (r :: rs)[j]? = some (.var i) → refd (look ρ i) = true → ∃ d, (o :: os)[j]? = some (.dat d .par) ∧ look ρ' i = .dat d (kdOf (look ρ i)) := by
      intro h e n
      rw [e] at nd ⊢
      obtain ⟨h1, h2, h3⟩ := backs_look nd h
      refine ⟨h1, h2, fun j i hj hr => ?_⟩
      cases j with
      | zero => simp at hj; exact absurd hr (n i hj)
      | succ j =>
        obtain ⟨d, g1, g2⟩ := h3 j i (by simpa using hj) hr
        exact ⟨d, by simpa using g1, g2⟩
    cases r with
    | shr _ => exact skip (by unfold backs at h; exact h) rfl (fun i e => by cases e)
    | tmp _ => exact skip (by unfold backs at h; exact h) rfl (fun i e => by cases e)
    | var m =>
      by_cases hm : refd (look ρ m) = true
      · have e0 : refIx ρ (.var m :: rs) = m :: refIx ρ rs := by
          show (if refd (look ρ m) = true then m :: refIx ρ rs else refIx ρ rs) = _
          rw [if_pos hm]
        unfold backs at h
        rw [if_pos hm] at h
        rw [e0] at nd ⊢
        have nd2 := (List.nodup_cons.mp nd)
        cases o with
        | non => cases h
        | scr _ => cases h
        | dat d k =>
          cases k with
          | frz => cases h
          | own => cases h
          | par =>
            have hlt : m < ρ.length := look_lt (fun z => by rw [z] at hm; cases hm)
            obtain ⟨h1, h2, h3⟩ := backs_look (by rw [refIx_put hm]; exact nd2.2) h
            rw [refIx_put hm] at h2
            refine ⟨h1.trans (put_len _ _ _), fun i hi => ?_, fun j i hj hr => ?_⟩
            · rw [h2 i fun z => hi (List.mem_cons_of_mem _ z)]
              exact look_put_ne fun z => hi (by rw [z]; exact List.mem_cons_self ..)
            · cases j with
              | zero =>
                simp at hj; subst hj
                refine ⟨d, by simp, ?_⟩
                rw [h2 m nd2.1, look_put_same hlt]
              | succ j =>
                have hj' : rs[j]? = some (.var i) := by simpa using hj
                have ne : i ≠ m := fun z => nd2.1 (by rw [← z]; exact mem_refIx hj' hr)
                obtain ⟨d', g1, g2⟩ := h3 j i hj' (by rw [look_put_ne ne]; exact hr)
                rw [look_put_ne ne] at g2
                exact ⟨d', by simpa using g1, g2⟩
      · exact skip (by unfold backs at h; rw [if_neg hm] at h; exact h) (by rw [refIx_var, if_neg hm]) (fun i e => by cases e; exact hm)
theorem HVs.get {vs : List V} {rs : List RV} : ∀ {j : Nat} {r : RV}, HVs Z A H σ vs rs → rs[j]? = some r → ∃ v, vs[j]? = some v ∧ HV Z A H σ v r := by
  intro j r h
  induction h generalizing j with
  | nil => intro e; simp at e
  | cons h t ih =>
    intro e
    cases j with
    | zero => simp at e; subst e; exact ⟨_, by simp, h⟩
    | succ j =>
      obtain ⟨v, g1, g2⟩ := ih (by simpa using e)
      exact ⟨v, by simpa using g1, g2⟩
theorem HVs.len {vs : List V} {rs : List RV} (h : HVs Z A H σ vs rs) : vs.length = rs.length := by
  induction h with
  | nil => rfl
  | cons _ _ ih => simp [ih]
theorem look_get : ∀ (ρ : Ev) (i : Nat), look ρ i = (ρ[i]?).getD .non
  | [], _ => rfl
  | _ :: _, 0 => rfl
  | _ :: r, i + 1 => by show look r i = _; rw [look_get r i]; simp
/-- what the callee owns; what it must leave -/
def Zc (Z : Ow) (A Bc : Nat → Option Addr) : Ow := fun a => Z a ∨ ((∃ i, A i = some a) ∧ ∀ j, Bc j ≠ some a)
theorem call_in {rs : List RV} {vs : List V} (R : Rep G Z B σ H ρ A) (f : HVs Z A H σ vs rs) (nd : (refIx ρ rs).Nodup) :
    Rep G (Zc Z A (bOf ρ A rs)) (bOf ρ A rs) (vs.map some) H (rs.map (argOf ρ)) (bOf ρ A rs) := by
  have sub : ∀ a, Oo (Zc Z A (bOf ρ A rs)) (bOf ρ A rs) a → Oo Z A a := fun a z => z.elim (fun z => z.elim .inl fun z => .inr z.1) fun ⟨j, e⟩ => let ⟨i, _, _, h⟩ := bOf_some e; .inr ⟨i, h⟩
  refine ⟨by simp [f.len], fun j => ?_, fun j k a e1 e2 => ?_, fun j a e z => ?_, fun a z => z.elim (R.zin a) fun ⟨⟨i, h⟩, _⟩ => R.ain i a h, fun j a e => let ⟨i, _, _, h⟩ := bOf_some e; R.ain i a h, fun j a e => ?_, R.tab⟩
  · rw [look_get, List.getElem?_map]
    cases q : rs[j]? with
    | none => trivial
    | some r =>
      obtain ⟨v, hv, g⟩ := f.get q
      have hv' : (vs.map some)[j]? = some (some v) := by rw [List.getElem?_map, hv]; rfl
      show SlR _ _ _ _ _ _ _ (argOf ρ r)
      cases r with
      | shr d => exact ⟨v, hv', Fz.weak g sub⟩
      | tmp d => exact ⟨v, hv', Fz.weak g sub⟩
      | var i =>
        have gi : σ[i]? = some (some v) := g
        have qi := R.at_ i
        show SlR _ _ _ _ _ _ _ (argS (look ρ i))
        cases l : look ρ i with
        | non => trivial
        | scr ns =>
          rw [l] at qi
          obtain ⟨a, h1, h2⟩ := qi
          rw [gi] at h1; cases h1
          exact ⟨a, hv', h2.mono kp0 fun a z => .inl (sub a z)⟩
        | dat d k =>
          rw [l] at qi
          cases k with
          | frz => obtain ⟨w, h1, h2⟩ := qi; rw [gi] at h1; cases h1; exact ⟨v, hv', h2.weak sub⟩
          | own =>
            obtain ⟨a, h0, h1, h2⟩ := qi
            rw [gi] at h1; cases h1
            have hb : bOf ρ A rs j = some a := by unfold bOf; rw [q]; show (if refd (look ρ i) = true then A i else none) = _; rw [l]; exact h0
            exact ⟨a, hb, hb, hv', h2.weak sub⟩
          | par =>
            obtain ⟨a, h0, _, h1, h2⟩ := qi
            rw [gi] at h1; cases h1
            have hb : bOf ρ A rs j = some a := by unfold bOf; rw [q]; show (if refd (look ρ i) = true then A i else none) = _; rw [l]; exact h0
            exact ⟨a, hb, hb, hv', h2.weak sub⟩
  · obtain ⟨i1, a1, b1, c1⟩ := bOf_some e1
    obtain ⟨i2, a2, b2, c2⟩ := bOf_some e2
    have := R.inj i1 i2 a c1 c2
    subst this
    exact refIx_inj nd a1 a2 b1
  · obtain ⟨i, _, _, h⟩ := bOf_some e
    exact z.elim (R.apart i a h) fun z => z.2 j e
  · obtain ⟨i, h1, h2, h3⟩ := bOf_some e
    rw [look_get, List.getElem?_map, h1]
    show ∃ d, argS (look ρ i) = _
    cases l : look ρ i with
    | non => rw [l] at h2; cases h2
    | scr _ => rw [l] at h2; cases h2
    | dat d k => cases k <;> first | exact ⟨d, rfl⟩ | (rw [l] at h2; cases h2)
theorem call_sup {rs : List RV} : ∀ a, Oo Z A a → Oo (Zc Z A (bOf ρ A rs)) (bOf ρ A rs) a := fun a z => z.elim (fun z => .inl (.inl z)) fun z => by
  by_cases h : ∃ j, bOf ρ A rs j = some a
  · exact .inr h
  · exact .inl (.inr ⟨z, fun j e => h ⟨j, e⟩⟩)
theorem call_out {rs : List RV} {vs : List V} {os : List Sl} {ρ' : Ev} {Zo : Ow} (R : Rep G Z B σ H ρ A) (f : HVs Z A H σ vs rs) (nd : (refIx ρ rs).Nodup) (hb : backs ρ rs os = some ρ')
    (R' : Rep G Zo (bOf ρ A rs) (vs.map some) H1 os (bOf ρ A rs)) (x : Evo (bOf ρ A rs) H (bOf ρ A rs) H1) (sup : ∀ a, Oo Z' A a → Oo Zo (bOf ρ A rs) a) (zz : ∀ a, Z' a → Z a ∨ H a = none) (zt : ∀ a, Z' a → H1 a ≠ none) :
    Rep G Z' B σ H1 ρ' A ∧ Evo A H A H1 := by
  obtain ⟨hl, h1, h2⟩ := backs_look nd hb
  have bA : ∀ j a, bOf ρ A rs j = some a → ∃ i, A i = some a := fun j a e => let ⟨i, _, _, h⟩ := bOf_some e; ⟨i, h⟩
  have kp : ∀ a o, H a = some o → ¬ Oo Z A a → Kp H1 a o := fun a o e n => x.keep a o e fun j z => n (.inr (bA j a z))
  have fo : ∀ a, Oo Z' A a → Oo Z A a ∨ H a = none := fun a z => z.elim (fun z => (zz a z).elim (fun z => .inl (.inl z)) .inr) fun z => .inl (.inr z)
  have dm : ∀ a, H a ≠ none → H1 a ≠ none := fun a n e => n (x.dom a e)
  refine ⟨⟨hl.trans R.len, fun i => ?_, R.inj, fun i a e z => (zz a z).elim (R.apart i a e) (R.ain i a e), zt, fun i a e => dm a (R.ain i a e), fun i a e => ?_, R'.tab⟩, ⟨fun a o e n => x.keep a o e fun j z => let ⟨i, h⟩ := bA j a z; n i h, x.dom, fun i a e => .inl ⟨i, e⟩⟩⟩
  · have q := R.at_ i
    by_cases hi : i ∈ refIx ρ rs
    · -- passed
      have : ∃ j : Nat, rs[j]? = some (.var i) ∧ refd (look ρ i) = true := by
        clear h1 h2 hb nd f R' x sup kp fo bA
        induction rs with
        | nil => cases hi
        | cons r rs ih =>
          cases r with
          | shr _ => obtain ⟨j, e⟩ := ih hi; exact ⟨j + 1, by simpa using e⟩
          | tmp _ => obtain ⟨j, e⟩ := ih hi; exact ⟨j + 1, by simpa using e⟩
          | var m =>
            unfold refIx at hi
            by_cases hm : refd (look ρ m) = true
            · rw [if_pos hm] at hi
              rcases List.mem_cons.mp hi with e | hi
              · subst e; exact ⟨0, by simp, hm⟩
              · obtain ⟨j, e⟩ := ih hi; exact ⟨j + 1, by simpa using e⟩
            · rw [if_neg hm] at hi; obtain ⟨j, e⟩ := ih hi; exact ⟨j + 1, by simpa using e⟩
      obtain ⟨j, hj, hr⟩ := this
      obtain ⟨d, g1, g2⟩ := h2 j i hj hr
      have qj := R'.at_ j
      rw [look_get, g1] at qj
      obtain ⟨a, b0, b1, b2, b3⟩ := qj
      obtain ⟨i', e1, e2, e3⟩ := bOf_some b0
      rw [hj] at e1; cases e1
      have b4 : Ob (Oo Z' A) H1 a d := b3.weak sup
      rw [g2]
      cases l : look ρ i with
      | non => rw [l] at hr; cases hr
      | scr _ => rw [l] at hr; cases hr
      | dat c k =>
        rw [l] at q hr
        cases k with
        | frz => cases hr
        | own => obtain ⟨a', c0, c1, _⟩ := q; rw [e3] at c0; cases c0; exact ⟨a, e3, c1, b4⟩
        | par => obtain ⟨a', c0, cb, c1, _⟩ := q; rw [e3] at c0; cases c0; exact ⟨a, e3, cb, c1, b4⟩
    · rw [h1 i hi]
      have np : ∀ j a, refd (look ρ i) = true → A i = some a → bOf ρ A rs j ≠ some a := fun j a hr ha z => by
        obtain ⟨i', e1, e2, e3⟩ := bOf_some z
        have := R.inj i i' a ha e3
        subst this
        exact hi (mem_refIx e1 e2)
      cases l : look ρ i with
      | non => trivial
      | scr ns => rw [l] at q; obtain ⟨a, c1, c2⟩ := q; exact ⟨a, c1, c2.mono kp fo⟩
      | dat c k =>
        rw [l] at q np
        cases k with
        | frz => obtain ⟨w, c1, c2⟩ := q; exact ⟨w, c1, c2.mono kp fo c⟩
        | own => obtain ⟨a, c0, c1, c2⟩ := q; exact ⟨a, c0, c1, c2.mono kp fo fun o e => x.keep a o e fun j => np j a rfl c0⟩
        | par => obtain ⟨a, c0, cb, c1, c2⟩ := q; exact ⟨a, c0, cb, c1, c2.mono kp fo fun o e => x.keep a o e fun j => np j a rfl c0⟩
  · obtain ⟨d, h⟩ := R.bpar i a e
    by_cases hi : i ∈ refIx ρ rs
    · by_cases hex : ∃ j : Nat, rs[j]? = some (.var i)
      · obtain ⟨j, hj⟩ := hex
        obtain ⟨d', _, g2⟩ := h2 j i hj (by rw [h]; rfl)
        exact ⟨d', by rw [g2, h]; rfl⟩
      · exfalso
        clear h1 h2 hb nd f R' x sup kp fo bA
        induction rs with
        | nil => cases hi
        | cons r rs ih =>
          have hex' : ¬ ∃ j : Nat, rs[j]? = some (.var i) := fun ⟨j, e⟩ => hex ⟨j + 1, by simpa using e⟩
          cases r with
          | shr _ => exact ih hi hex'
          | tmp _ => exact ih hi hex'
          | var m =>
            unfold refIx at hi
            by_cases hm : refd (look ρ m) = true
            · rw [if_pos hm] at hi
              rcases List.mem_cons.mp hi with e | hi
              · subst e; exact hex ⟨0, by simp⟩
              · exact ih hi hex'
            · rw [if_neg hm] at hi; exact ih hi hex'
    · exact ⟨d, by rw [h1 i hi]; exact h⟩
/-- the call's reading -/
theorem callD_ok {np : Nat} {F : FnD} {rs : List RV} {vs : List V} {K : RV → Ev → Ro RV} (R : Rep G Z B σ H ρ A) (f : HVs Z A H σ vs rs) (hn : rs.length = np)
    (d : Done G W Z B σ (pE G Z B σ Q) H A (if nodupB (refIx ρ rs) = true then (match F (rs.map (argOf ρ)) with
      | .ok r os => (match r with
        | .var _ => .bad
        | r => match backs ρ rs os with
          | some ρ2 => .ok r ρ2
          | none => .bad)
      | .exc x os => (match backs ρ rs os with
          | some ρ2 => .exc x ρ2
          | none => .bad)
      | .bad => .bad) else .bad)) : spD G np F vs H Q (fun cv dx H' => W cv dx σ H') := by
  by_cases hd : nodupB (refIx ρ rs) = true
  · rw [if_pos hd] at d
    have nd := nodup_of hd
    refine ⟨f.len.trans hn, _, _, _, call_in R f nd, ?_⟩
    cases e : F (rs.map (argOf ρ)) with
    | bad => rw [e] at d; exact d.elim
    | exc x os =>
      rw [e] at d
      simp only [] at d
      cases eb : backs ρ rs os with
      | none => rw [eb] at d; exact d.elim
      | some ρ2 =>
        rw [eb] at d
        intro cv dx H' R' x' q
        obtain ⟨R2, x2⟩ := call_out (Z' := Z) R f nd eb R' x' call_sup (fun a z => .inl z) (fun a z => R'.zin a (.inl z))
        refine d cv dx H' A R2 x2 ?_
        obtain ⟨C, h1, h2, h3⟩ := q
        refine ⟨C, h1, h2, ?_⟩
        cases hd : x.d with
        | none => rw [hd] at h3; exact h3
        | some dd =>
          rw [hd] at h3
          obtain ⟨p, w, g1, g2, g3, g4⟩ := h3
          exact ⟨p, w, g1, g2, fun z => g3 (call_sup _ z), g4.weak call_sup⟩
    | ok r os =>
      rw [e] at d
      cases r with
      | var _ => exact d.elim
      | shr c =>
        simp only [] at d
        cases eb : backs ρ rs os with
        | none => rw [eb] at d; exact d.elim
        | some ρ2 =>
          rw [eb] at d
          intro v H' R' x' g
          obtain ⟨R2, x2⟩ := call_out (Z' := Z) R f nd eb R' x' call_sup (fun a z => .inl z) (fun a z => R'.zin a (.inl z))
          exact d v H' A R2 x2 (g.weak call_sup)
      | tmp c =>
        simp only [] at d
        cases eb : backs ρ rs os with
        | none => rw [eb] at d; exact d.elim
        | some ρ2 =>
          rw [eb] at d
          intro a H' R' x' n o
          have sup : ∀ b, Oo (Zx Z a) A b → Oo (Zx (Zc Z A (bOf ρ A rs)) a) (bOf ρ A rs) b := fun b z => z.elim (fun z => z.elim (fun z => .inl (.inl (.inl z))) fun z => .inl (.inr z)) fun z => (call_sup (Z := Z) b (.inr z)).elim (fun z => .inl (.inl z)) .inr
          obtain ⟨R2, x2⟩ := call_out (Z' := Zx Z a) R f nd eb R' x' sup (fun b z => z.elim .inl fun z => .inr (by rw [z]; exact n)) (fun b z => z.elim (fun z => R'.zin b (.inl (.inl z))) fun z => R'.zin b (.inr z))
          exact d a H' A R2 x2 n (o.weak sup)
  · rw [if_neg hd] at d; exact d.elim
end
end DL

namespace DL
open PySem PySem.Spec PyProof.Rows L2
section
variable {X : Cx} {G : Gm} {W : Wi} {Z Z' : Ow} {B A A1 A2 A0 : Nat → Option Addr} {σ σ1 : L2.St} {H H1 H2 H0 : Hp} {ρ ρ1 ρ2 : Ev} {Q : VK} {v : V} {r : RV}
/-! ### calls -/
def callR (np : Nat) (F : FnD) (rs : List RV) (ρ : Ev) : Ro RV := if rs.length = np then (if nodupB (refIx ρ rs) = true then (match F (rs.map (argOf ρ)) with
      | .ok r os => (match r with
        | .var _ => .bad
        | r => match backs ρ rs os with
          | some ρ2 => .ok r ρ2
          | none => .bad)
      | .exc x os => (match backs ρ rs os with
          | some ρ2 => .exc x ρ2
          | none => .bad)
      | .bad => .bad) else .bad) else .bad
def eC_ (np : Nat) (F : FnD) (a : EvA) : EvE := fun ρ => (a ρ).bind (callR np F)
theorem callR_ok {np : Nat} {F : FnD} {rs : List RV} {vs : List V} (R : Rep G Z B σ H ρ A) (f : HVs Z A H σ vs rs) (d : Done G W Z B σ (pE G Z B σ Q) H A (callR np F rs ρ)) : spD G np F vs H Q (fun cv dx H' => W cv dx σ H') := by
  unfold callR at d
  by_cases h : rs.length = np
  · rw [if_pos h] at d
    exact callD_ok (K := fun r ρ => .ok r ρ) R f h d
  · rw [if_neg h] at d; exact d.elim
section
variable {CX : CXT} {k : Nat} {f : Addr} {fd : FuncData} {ps : List Str} {F : FnD} {x : Str} {p pos : Pos} {e : Expr} {es : List Expr} {ea : EvA}
theorem de_call {np : Nat} (hF : FnG X.prog X.w X.K X.mg X.base CX k f fd ps (spD G np F)) (hr : Room k X.A) (hG : X.A.guards = some []) (hg : Gl X x) (hm : X.mg x = some (.ref f)) (hk : PySem.W.keepIn X.K (.ref f) = true) (hb : Binds X.K fd ps []) (hx : ∀ σ, PassesAt CX X σ (fun cv dx H' => W cv dx σ H'))
    (ha : DA X G W (e :: es) ea) (hdb : (x == ("__debug__" : Str)) = false := by decide) (he : starEach (e :: es) X.env = (false, eval e X.env) :: starEach es X.env := by rfl) (hpl : (backTo pos (starEach es X.env)).any (·.1) = false := by rfl) :
    DE X G W (.Call (.Name x p) (e :: es) [] pos) (eC_ np F ea) :=
  ⟨PE_imp (pe_callG (E := fun σ cv dx H' => W cv dx σ H') hF hr hG hg hm hk hb .nil hx ha.pa hdb he hpl) fun σ H Q ⟨Z, B, ρ, A, R, d⟩ => by
    refine dA_bind shift_E R d fun rs ρ1 vs H1 A1 R1 x1 f1 d1 => ?_
    rw [List.append_nil]
    exact callR_ok R1 f1 d1⟩
theorem de_call0 {np : Nat} (hF : FnG X.prog X.w X.K X.mg X.base CX k f fd ps (spD G np F)) (hr : Room k X.A) (hG : X.A.guards = some []) (hg : Gl X x) (hm : X.mg x = some (.ref f)) (hk : PySem.W.keepIn X.K (.ref f) = true) (hb : Binds X.K fd ps []) (hx : ∀ σ, PassesAt CX X σ (fun cv dx H' => W cv dx σ H'))
    (hdb : (x == ("__debug__" : Str)) = false := by decide) : DE X G W (.Call (.Name x p) [] [] pos) (eC_ np F eNil) :=
  ⟨PE_imp (pe_callG0 (E := fun σ cv dx H' => W cv dx σ H') hF hr hG hg hm hk hb .nil hx hdb) fun σ H Q ⟨Z, B, ρ, A, R, d⟩ => callR_ok R .nil d⟩
end
/-! keywords alone -/
def permL {α : Type} (l : List α) : List Nat → List α
  | [] => []
  | i :: r => match l[i]? with
    | some x => x :: permL l r
    | none => permL l r
theorem permL_vals {zs : List V} {ws : List Value} (r : Vals zs ws) : ∀ pi, Vals (permL zs pi) (permL ws pi)
  | [] => .nil
  | i :: pi => by
    unfold permL
    cases e : zs[i]? with
    | none => rw [r.none_of e]; exact permL_vals r pi
    | some x =>
      obtain ⟨u, h1, h2⟩ := r.get e
      rw [h1]; exact .cons h2 (permL_vals r pi)
theorem permL_hvs {vs : List V} {rs : List RV} (h : HVs Z A H σ vs rs) : ∀ pi, HVs Z A H σ (permL vs pi) (permL rs pi)
  | [] => .nil
  | i :: pi => by
    unfold permL
    cases e : rs[i]? with
    | none =>
      have : vs[i]? = none := by
        rw [List.getElem?_eq_none_iff] at e ⊢
        rw [h.len]; exact e
      rw [this]; exact permL_hvs h pi
    | some x =>
      obtain ⟨u, h1, h2⟩ := h.get e
      rw [h1]; exact .cons h2 (permL_hvs h pi)
structure DKw (X : Cx) (G : Gm) (W : Wi) (kws : List Keyword) (ev : EvA) : Prop where
  pk : PK X kws (dA G W ev)
theorem PK_imp {kws : List Keyword} {t t' : TA} (h : PK X kws t) (i : ∀ σ H Q, t' σ H Q → t σ H Q) : PK X kws t' := ⟨fun pos pins s σ H Q I q => h.run pos pins s σ H Q I (i σ H Q q)⟩
theorem dk_nil : DKw X G W [] eNil := ⟨PK_imp pk_nil fun σ H Q ⟨Z, B, ρ, A, R, d⟩ => d [] H A R .refl .nil⟩
theorem dk_cons {e : Expr} {kws : List Keyword} {ea : EvE} {er : EvA} {nm : Option Str} {kpos : Pos} (ha : DE X G W e ea) (hr : DKw X G W kws er) : DKw X G W (⟨nm, e, kpos⟩ :: kws) (eCons ea er) :=
  ⟨PK_imp (pk_cons ha.pe hr.pk) fun σ H Q ⟨Z, B, ρ, A, R, d⟩ => by
    refine dE_bind shift_A R d fun r1 ρ1 v H1 A1 R1 x1 f1 d1 => ?_
    refine dA_bind shift_A R1 d1 fun rs ρ2 vs H2 A2 R2 x2 f2 d2 => ?_
    exact d2 (v :: vs) H2 A2 R2 .refl (.cons (f1.evo x2) f2)⟩
/-- keywords of the names ks bind in the order pi -/
def KBG (K : PySem.W.Frag) (fd : FuncData) (ps ks : List Str) (pi : List Nat) : Prop :=
  ∀ (s : Shared) (ws : List Value), K.In s.heap → ws.length = ks.length → BindsTo s fd ⟨[], ks.zip ws⟩ (ps.zip (permL ws pi))
def eCk (np : Nat) (pi : List Nat) (F : FnD) (a : EvA) : EvE := fun ρ => (a ρ).bind fun rs ρ1 => if rs.length = np then callR np F (permL rs pi) ρ1 else .bad
theorem de_callK {CX : CXT} {k np : Nat} {f : Addr} {fd : FuncData} {ps ks : List Str} {F : FnD} {x : Str} {p pos : Pos} {kws : List Keyword} {ea : EvA} {pi : List Nat} (hF : FnG X.prog X.w X.K X.mg X.base CX k f fd ps (spD G np F)) (hr : Room k X.A) (hG : X.A.guards = some []) (hg : Gl X x) (hm : X.mg x = some (.ref f)) (hk : PySem.W.keepIn X.K (.ref f) = true)
    (hb : KBG X.K fd ps ks pi) (hx : ∀ σ, PassesAt CX X σ (fun cv dx H' => W cv dx σ H')) (hkw : DKw X G W kws ea) (hn : np = ks.length := by rfl) (hall : (backToKw pos (keywordEach kws X.env)).all (·.1.isSome) = true := by rfl) (hks : (backToKw pos (keywordEach kws X.env)).filterMap (·.1) = ks := by rfl)
    (hpl : ((backTo pos (starEach [] X.env)).any (·.1) || (backToKw pos (keywordEach kws X.env)).any (·.1.isNone)) = false := by rfl) (hdb : (x == ("__debug__" : Str)) = false := by decide) :
    DE X G W (.Call (.Name x p) [] kws pos) (eCk np pi F ea) := by
  refine ⟨⟨fun pins s σ H Q I ⟨Z, B, ρ, A, R, d⟩ => ?_⟩⟩
  have h : dA G W ea σ H (fun vs H1 => vs.length = np ∧ spD G np F (permL vs pi) H1 Q (fun cv dx H' => W cv dx σ H')) := by
    refine dA_bind shift_E R d fun rs ρ1 vs H1 A1 R1 x1 f1 d1 => ?_
    by_cases hl : rs.length = np
    · rw [if_pos hl] at d1
      exact ⟨f1.len.trans hl, callR_ok R1 (permL_hvs f1 pi) d1⟩
    · rw [if_neg hl] at d1; exact d1.elim
  refine wpAny_Call_Name_kw (ld_glob I hg hm (PySem.W.callWith_KW0 (h₀ := X.base) I.ok.mod.kin hk hall (thn (hkw.pk.run pos pins s σ H _ I h) fun ws s2 ⟨zs, H2, I2, rz, q1, q2⟩ => ⟨I2.kIn, ?_⟩) hpl) hdb)
  rw [hks]
  refine wpAny_call (codeAny_mono (runG (E := fun σ cv dx H' => W cv dx σ H') hF hr hG (hb s2 ws I2.kIn (by rw [← rz.length, q1, hn])) (hx σ) I2 (permL_vals rz pi) q2) fun r s' hq => ?_)
  match r, hq with
  | .error e, hq => exact hq
  | .ok (.ret u), hq => exact hq

/-! ### operations -/
def gAdd : G2
  | .int i, .int j => .val (.int (i + j))
  | .str x, .str y => if x.length + y.length ≤ lim then .val (.str (x ++ y)) else .bad
  | .list a, .list b => if a.length + b.length ≤ lim then .new (a ++ b) else .bad
  | .tuple a, .tuple b => if a.length + b.length ≤ lim then .val (.tuple (a ++ b)) else .bad
  | _, _ => .bad
def rAddS : R2 := fun x y H Q => ∃ i j, x = .str i ∧ y = .str j ∧ i.length + j.length ≤ sizeLine ∧ Q (.str (i ++ j)) H
def rAddX (K : PySem.W.Frag) : R2 := fun x y H Q => rI0 (fun i j => .int (i + j)) x y H Q ∨ rAddS x y H Q ∨ rCat x y H Q ∨ rCatN K x y H Q
theorem op_addX : OpR X (binaryOp .Add) (rAddX X.K) := op_add.or (op_add_str.or (op_cat.or op_catN))
theorem nO {O : Ow} {H : Hp} {a : Addr} (hO : ∀ a, O a → H a ≠ none) (n : H a = none) : ¬ O a := fun z => hO a z n
/-- a new tuple -/
theorem Fz.newT {O : Ow} {H : Hp} {a : Addr} {o : Obj} {xs : List V} {ds : List PyData} (ho : o.dict = none) (hO : ∀ a, O a → H a ≠ none) (n : H a = none) (f : FzA O H xs ds) : Fz O (upd H a (.frz o (.tup xs))) (.ref a) (.tuple ds) := .tup (trt_new ho) (nO hO n) (f.ext (.new n))
theorem op_addS {K : PySem.W.Frag} : Op2S (rAddX K) gAdd := by
  intro O H x y dx dy Q hO hx hy h
  cases dx <;> cases dy <;> try exact False.elim h
  · exact .inl ⟨_, _, hx, hy, h _ H (.refl _) (.int _)⟩
  · rename_i a b
    by_cases hl : a.length + b.length ≤ lim
    · simp only [gAdd, if_pos hl] at h
      exact .inr (.inl ⟨a, b, hx, hy, by rw [← lim_eq]; exact hl, h _ H (.refl _) (.str _)⟩)
    · simp only [gAdd, if_neg hl] at h; exact h.elim
  · rename_i a b
    by_cases hl : a.length + b.length ≤ lim
    · simp only [gAdd, if_pos hl] at h
      obtain ⟨p, xs, rfl, e1, f1⟩ := hx
      obtain ⟨q, ys, rfl, e2, f2⟩ := hy
      refine .inr (.inr (.inl ⟨p, q, xs, ys, rfl, rfl, e1, e2, by rw [f1.len, f2.len, ← lim_eq]; exact hl, fun n hn => ?_⟩))
      exact h n _ H _ (.refl _) hn (.new hn) upd_same (f1.append f2)
    · simp only [gAdd, if_neg hl] at h; exact h.elim
  · rename_i a b
    by_cases hl : a.length + b.length ≤ lim
    · simp only [gAdd, if_pos hl] at h
      obtain ⟨p, xs, rfl, e1, n1, f1⟩ := hx
      obtain ⟨q, ys, rfl, e2, n2, f2⟩ := hy
      have fz := f1.append f2
      refine .inr (.inr (.inr ⟨p, q, xs, ys, rfl, rfl, e1.sq, e2.sq, by rw [f1.len, f2.len, ← lim_eq]; exact hl, fun z => ?_, fun _ z => ?_, fun _ _ n o hn ho => ?_⟩))
      · subst z
        exact h _ H (.refl _) (.tup e2 n2 fz)
      · subst z
        rw [List.append_nil] at fz
        exact h _ H (.refl _) (.tup e1 n1 fz)
      · exact h _ _ (.new hn) (.newT ho hO hn fz)
    · simp only [gAdd, if_neg hl] at h; exact h.elim
def gSub : G2
  | .int i, .int j => .val (.int (i - j))
  | _, _ => .bad
theorem op_subS : Op2S (rI0 fun i j => .int (i - j)) gSub := by
  intro O H x y dx dy Q hO hx hy h
  cases dx <;> cases dy <;> try exact False.elim h
  exact ⟨_, _, hx, hy, h _ H (.refl _) (.int _)⟩
/-- sizes of numbers, in bits -/
def bits (i : Int) : Nat := i.natAbs.log2
def gMul : G2
  | .int i, .int j => if bits i + bits j < 1000000 then .val (.int (i * j)) else .bad
  | .list a, .int j => if -9223372036854775808 ≤ j ∧ j < 9223372036854775808 ∧ a.length * j.toNat ≤ lim then .new (List.replicate j.toNat a).flatten else .bad
  | _, _ => .bad
def rMulX : R2 := fun x y H Q => rI CMulW (fun i j => .int (i * j)) x y H Q ∨ rRep x y H Q
theorem op_mulX : OpR X (binaryOp .Mult) rMulX := op_mulW.or op_rep
theorem FzA.rep {O : Ow} {H : Hp} {xs : List V} {ds : List PyData} (f : FzA O H xs ds) : ∀ k, FzA O H (List.replicate k xs).flatten (List.replicate k ds).flatten
  | 0 => .nil
  | k + 1 => by
    rw [List.replicate_succ, List.replicate_succ, List.flatten_cons, List.flatten_cons]
    exact f.append (f.rep k)
theorem op_mulS : Op2S rMulX gMul := by
  intro O H x y dx dy Q hO hx hy h
  cases dx <;> cases dy <;> try exact False.elim h
  · rename_i i j
    by_cases hl : bits i + bits j < 1000000
    · simp only [gMul, if_pos hl] at h
      exact .inl ⟨i, j, hx, hy, hl, h _ H (.refl _) (.int _)⟩
    · simp only [gMul, if_neg hl] at h; exact h.elim
  · rename_i a j
    by_cases hl : -9223372036854775808 ≤ j ∧ j < 9223372036854775808 ∧ a.length * j.toNat ≤ lim
    · simp only [gMul, if_pos hl] at h
      obtain ⟨p, xs, rfl, e1, f1⟩ := hx
      obtain ⟨h1, h2, h3⟩ := hl
      refine .inr ⟨p, j, xs, rfl, hy, e1, by omega, by omega, by rw [f1.len, ← lim_eq]; exact h3, fun n hn => ?_⟩
      exact h n _ H _ (.refl _) hn (.new hn) upd_same (f1.rep _)
    · simp only [gMul, if_neg hl] at h; exact h.elim
/-- % and // by a positive number -/
def gMod : G2
  | .int i, .int j => if 0 < j then .val (.int (i % j)) else .bad
  | _, _ => .bad
theorem op_modS : Op2S (rI (fun _ j => 0 < j) fun i j => .int (i % j)) gMod := by
  intro O H x y dx dy Q hO hx hy h
  cases dx <;> cases dy <;> try exact False.elim h
  rename_i i j
  by_cases hl : 0 < j
  · simp only [gMod, if_pos hl] at h
    exact ⟨i, j, hx, hy, hl, h _ H (.refl _) (.int _)⟩
  · simp only [gMod, if_neg hl] at h; exact h.elim
def gFdiv : G2
  | .int i, .int j => if 0 < j ∧ bits j < 9000 then .val (.int (i / j)) else .bad
  | _, _ => .bad
theorem op_fdivS : Op2S (rI CDivW fun i j => .int (i / j)) gFdiv := by
  intro O H x y dx dy Q hO hx hy h
  cases dx <;> cases dy <;> try exact False.elim h
  rename_i i j
  by_cases hl : 0 < j ∧ bits j < 9000
  · simp only [gFdiv, if_pos hl] at h
    exact ⟨i, j, hx, hy, hl, h _ H (.refl _) (.int _)⟩
  · simp only [gFdiv, if_neg hl] at h; exact h.elim
def CPowW (i j : Int) : Prop := 0 ≤ j ∧ (Builtin.Int.intBits i : Int) * j ≤ 2 ^ 27
theorem op_powW : OpR X (binaryOp .Pow) (rI CPowW fun i j => .int (i ^ j.toNat)) := opI fun _ _ _ _ _ _ _ hc q => pow_int hc.1 hc.2 q
theorem intBits_le (i : Int) : Builtin.Int.intBits i ≤ bits i + 1 := by
  unfold Builtin.Int.intBits bits
  split <;> omega
def gPow : G2
  | .int i, .int j => if 0 ≤ j ∧ (bits i + 1) * j.toNat ≤ 100000000 then .val (.int (i ^ j.toNat)) else .bad
  | _, _ => .bad
theorem op_powS : Op2S (rI CPowW fun i j => .int (i ^ j.toNat)) gPow := by
  intro O H x y dx dy Q hO hx hy h
  cases dx <;> cases dy <;> try exact False.elim h
  rename_i i j
  by_cases hl : 0 ≤ j ∧ (bits i + 1) * j.toNat ≤ 100000000
  · simp only [gPow, if_pos hl] at h
    refine ⟨i, j, hx, hy, ⟨hl.1, ?_⟩, h _ H (.refl _) (.int _)⟩
    have e : (j.toNat : Int) = j := Int.toNat_of_nonneg hl.1
    have h1 : Builtin.Int.intBits i * j.toNat ≤ 100000000 := Nat.le_trans (Nat.mul_le_mul_right _ (intBits_le i)) hl.2
    have h2 : ((Builtin.Int.intBits i * j.toNat : Nat) : Int) ≤ 100000000 := Int.ofNat_le.mpr h1
    rw [Int.natCast_mul, e] at h2
    omega
  · simp only [gPow, if_neg hl] at h; exact h.elim
def gNeg : G1
  | .int i => .val (.int (-i))
  | _ => .bad
theorem un_negS : Un1S (rU fun i => .int (-i)) gNeg := by
  intro O H x dx Q hO hx h
  cases dx <;> try exact False.elim h
  exact ⟨_, hx, h _ H (.refl _) (.int _)⟩
/-! comparisons -/
def gCmp (p : Int → Int → Bool) : G2
  | .int i, .int j => .val (.bool (p i j))
  | _, _ => .bad
theorem op_cmpS (p : Int → Int → Bool) : Op2S (rI0 fun i j => .bl (p i j)) (gCmp p) := by
  intro O H x y dx dy Q hO hx hy h
  cases dx <;> cases dy <;> try exact False.elim h
  exact ⟨_, _, hx, hy, h _ H (.refl _) (.bl _)⟩
def gEq : G2 := fun x y => if SeqAt.shaped x = true ∧ SeqAt.shaped y = true then .val (.bool (PyData.eqv x y)) else .bad
def gNe : G2 := fun x y => if SeqAt.shaped x = true ∧ SeqAt.shaped y = true then .val (.bool (!PyData.eqv x y)) else .bad
theorem op_eqS {K : PySem.W.Frag} : Op2S (rEqD K) gEq := by
  intro O H x y dx dy Q hO hx hy h
  unfold gEq at h
  by_cases hl : SeqAt.shaped dx = true ∧ SeqAt.shaped dy = true
  · rw [if_pos hl] at h
    exact ⟨dx, dy, hx.dp (PyData.hasDict_of_canLay _ (SeqAt.canLay_of_shaped hl.1)), hy.dp (PyData.hasDict_of_canLay _ (SeqAt.canLay_of_shaped hl.2)), hl.1, hl.2, h _ H (.refl _) (.bl _)⟩
  · rw [if_neg hl] at h; exact h.elim
theorem op_neS {K : PySem.W.Frag} : Op2S (rNeD K) gNe := by
  intro O H x y dx dy Q hO hx hy h
  unfold gNe at h
  by_cases hl : SeqAt.shaped dx = true ∧ SeqAt.shaped dy = true
  · rw [if_pos hl] at h
    exact ⟨dx, dy, hx.dp (PyData.hasDict_of_canLay _ (SeqAt.canLay_of_shaped hl.1)), hy.dp (PyData.hasDict_of_canLay _ (SeqAt.canLay_of_shaped hl.2)), hl.1, hl.2, h _ H (.refl _) (.bl _)⟩
  · rw [if_neg hl] at h; exact h.elim
def isNone : PyData → Bool
  | .none => true
  | _ => false
def gIs : G2 := fun x y => match y with
  | .none => .val (.bool (isNone x))
  | _ => .bad
def gIsNot : G2 := fun x y => match y with
  | .none => .val (.bool (!isNone x))
  | _ => .bad
theorem vw_none {O : Ow} {H : Hp} {x : V} : ∀ {d : PyData}, Vw O H x d → decide (x = .non) = isNone d
  | .none, h => by cases h; rfl
  | .bool _, h => by cases h; rfl
  | .int _, h => by cases h; rfl
  | .str _, h => by cases h; rfl
  | .list _, h => by obtain ⟨a, xs, rfl, _⟩ := h; rfl
  | .tuple _, h => by obtain ⟨a, xs, rfl, _⟩ := h; rfl
  | .dict _, h => by obtain ⟨a, _, _, _, rfl, _⟩ := h; rfl
theorem op_isS : Op2S (fun x y H Q => y = .non ∧ Q (.bl (decide (x = .non))) H) gIs := by
  intro O H x y dx dy Q hO hx hy h
  cases dy <;> try exact False.elim h
  refine ⟨hy, ?_⟩
  rw [vw_none hx]
  exact h _ H (.refl _) (.bl _)
theorem op_isnotS : Op2S (fun x y H Q => y = .non ∧ Q (.bl (!decide (x = .non))) H) gIsNot := by
  intro O H x y dx dy Q hO hx hy h
  cases dy <;> try exact False.elim h
  refine ⟨hy, ?_⟩
  rw [vw_none hx]
  exact h _ H (.refl _) (.bl _)
/-! in a list, a tuple of flat things -/
def flatD : PyData → Bool
  | .none => true
  | .bool _ => true
  | .int _ => true
  | .str _ => true
  | _ => false
theorem flat_of {O : Ow} {H : Hp} {v : V} {d : PyData} (h : Vw O H v d) (e : flatD d = true) : flatV v = true := by
  cases d with
  | none => have h : v = .non := h; subst h; rfl
  | bool _ => have h : v = .bl _ := h; subst h; rfl
  | int _ => have h : v = .int _ := h; subst h; rfl
  | str _ => have h : v = .str _ := h; subst h; rfl
  | list _ => cases e
  | tuple _ => cases e
  | dict _ => cases e
theorem flatA_of {O : Ow} {H : Hp} : ∀ {vs : List V} {ds : List PyData}, FzA O H vs ds → ds.all flatD = true → vs.all flatV = true
  | [], _, h, _ => rfl
  | v :: vs, _, h, g => by
    cases h with
    | cons p q =>
      rw [List.all_cons, Bool.and_eq_true] at g ⊢
      exact ⟨flat_of p.vw g.1, flatA_of q g.2⟩
theorem eqV_of {O : Ow} {H : Hp} {v w : V} : ∀ {d e : PyData}, Vw O H v d → Vw O H w e → flatD d = true → flatD e = true → eqV v w = PyData.eqv d e := by
  intro d e h g fd fe
  cases d <;> cases fd <;> cases e <;> cases fe <;> cases h <;> cases g <;> simp [eqV, PyData.eqv]
def inD (x : PyData) (ds : List PyData) : Bool := ds.any fun z => PyData.eqv z x
theorem inV_of {O : Ow} {H : Hp} {w : V} {x : PyData} (g : Vw O H w x) (fx : flatD x = true) : ∀ {vs : List V} {ds : List PyData}, FzA O H vs ds → ds.all flatD = true → inV w vs = inD x ds
  | [], _, h, _ => by cases h; rfl
  | v :: vs, _, h, f => by
    cases h with
    | cons p q =>
      rw [List.all_cons, Bool.and_eq_true] at f
      have ih := inV_of g fx q f.2
      unfold inV inD at ih ⊢
      rw [List.any_cons, List.any_cons, ih, eqV_of p.vw g f.1 fx]
def gIn (neg : Bool) : G2 := fun x y => match y with
  | .list ds => if flatD x = true ∧ ds.all flatD = true then .val (.bool (if neg then !inD x ds else inD x ds)) else .bad
  | .tuple ds => if flatD x = true ∧ ds.all flatD = true then .val (.bool (if neg then !inD x ds else inD x ds)) else .bad
  | _ => .bad
theorem op_inS {K : PySem.W.Frag} (neg : Bool) : Op2S (rIn K neg) (gIn neg) := by
  intro O H x y dx dy Q hO hx hy h
  cases dy <;> try exact False.elim h
  · rename_i ds
    by_cases hl : flatD dx = true ∧ ds.all flatD = true
    · simp only [gIn, if_pos hl] at h
      obtain ⟨p, xs, rfl, e1, f1⟩ := hy
      refine ⟨p, xs, rfl, .inl (.of e1), flat_of hx hl.1, flatA_of f1 hl.2, ?_⟩
      rw [inV_of hx hl.1 f1 hl.2]
      exact h _ H (.refl _) (.bl _)
    · simp only [gIn, if_neg hl] at h; exact h.elim
  · rename_i ds
    by_cases hl : flatD dx = true ∧ ds.all flatD = true
    · simp only [gIn, if_pos hl] at h
      obtain ⟨p, xs, rfl, e1, _, f1⟩ := hy
      refine ⟨p, xs, rfl, .inr e1.sq, flat_of hx hl.1, flatA_of f1 hl.2, ?_⟩
      rw [inV_of hx hl.1 f1 hl.2]
      exact h _ H (.refl _) (.bl _)
    · simp only [gIn, if_neg hl] at h; exact h.elim
/-! items -/
def gIx : G2
  | .list ds, .int i => match atI ds i with
    | some d => .val d
    | none => .bad
  | .tuple ds, .int i => match atI ds i with
    | some d => .val d
    | none => .bad
  | .str z, .int i => if z.length ≤ lim then (match atI z.cps.toList i with
    | some c => .val (.str ⟨#[c]⟩)
    | none => .bad) else .bad
  | _, _ => .bad
theorem atI_fz {O : Ow} {H : Hp} {vs : List V} {ds : List PyData} {i : Int} {d : PyData} (f : FzA O H vs ds) (e : atI ds i = some d) : ∃ v, atI vs i = some v ∧ Fz O H v d := by
  unfold atI at e ⊢
  rw [f.len]
  cases q : ixN ds.length i with
  | none => rw [q] at e; cases e
  | some j =>
    rw [q] at e
    exact f.get e
theorem ix_S {K : PySem.W.Frag} : Op2S (rIx K) gIx := by
  intro O H x y dx dy Q hO hx hy h
  cases dx <;> cases dy <;> try exact False.elim h
  · rename_i z i
    by_cases hl : z.length ≤ lim
    · simp only [gIx, if_pos hl] at h
      cases e : atI z.cps.toList i with
      | none => simp only [e] at h; exact h.elim
      | some c => 
        simp only [e] at h
        exact .inr (.inr ⟨z, i, c, hx, hy, by rw [← lim_eq]; exact hl, e, h _ H (.refl _) (.str _)⟩)
    · simp only [gIx, if_neg hl] at h; exact h.elim
  · rename_i ds i
    obtain ⟨p, xs, rfl, e1, f1⟩ := hx
    cases e : atI ds i with
    | none => simp only [gIx, e] at h; exact h.elim
    | some d =>
      simp only [gIx, e] at h
      obtain ⟨v, g1, g2⟩ := atI_fz f1 e
      exact .inl ⟨p, xs, i, v, rfl, hy, .of e1, g1, h v H (.refl _) g2⟩
  · rename_i ds i
    obtain ⟨p, xs, rfl, e1, _, f1⟩ := hx
    cases e : atI ds i with
    | none => simp only [gIx, e] at h; exact h.elim
    | some d =>
      simp only [gIx, e] at h
      obtain ⟨v, g1, g2⟩ := atI_fz f1 e
      exact .inr (.inl ⟨p, xs, i, v, rfl, hy, e1.sq, g1, h v H (.refl _) g2⟩)
/-! built-ins -/
def gLen : GN
  | [.list ds] => .val (.int ds.length)
  | [.tuple ds] => .val (.int ds.length)
  | [.str z] => if z.length ≤ lim then .val (.int z.length) else .bad
  | _ => .bad
def rLenX (K : PySem.W.Frag) : List V → Hp → VK → Prop := fun xs H Q => (∃ p ys, xs = [.ref p] ∧ (SqL K H p ys ∨ SqT K H p ys) ∧ Q (.int ys.length) H) ∨ (∃ z, xs = [.str z] ∧ z.length ≤ sizeLine ∧ Q (.int z.length) H)
theorem call_lenX : CallR X (.builtin "len") (rLenX X.K) := call_len_seq.or call_len_str
theorem VwA.one {O : Ow} {H : Hp} {xs : List V} {d : PyData} (h : VwA O H xs [d]) : ∃ x, xs = [x] ∧ Vw O H x d := by
  cases h with
  | cons a b => cases b; exact ⟨_, rfl, a⟩
theorem VwA.two {O : Ow} {H : Hp} {xs : List V} {d e : PyData} (h : VwA O H xs [d, e]) : ∃ x y, xs = [x, y] ∧ Vw O H x d ∧ Vw O H y e := by
  cases h with
  | cons a b =>
    obtain ⟨y, rfl, hy⟩ := b.one
    exact ⟨_, _, rfl, a, hy⟩
theorem call_lenS {K : PySem.W.Frag} : CallS (rLenX K) gLen := by
  intro O H xs ds Q hO hv h
  match ds, hv, h with
  | [.list ds], hv, h =>
    obtain ⟨x, rfl, p, ys, rfl, e1, f1⟩ := hv.one
    refine .inl ⟨p, ys, rfl, .inl (.of e1), ?_⟩
    rw [f1.len]; exact h _ H (.refl _) (.int _)
  | [.tuple ds], hv, h =>
    obtain ⟨x, rfl, p, ys, rfl, e1, _, f1⟩ := hv.one
    refine .inl ⟨p, ys, rfl, .inr e1.sq, ?_⟩
    rw [f1.len]; exact h _ H (.refl _) (.int _)
  | [.str z], hv, h =>
    obtain ⟨x, rfl, rfl⟩ := hv.one
    by_cases hl : z.length ≤ lim
    · simp only [gLen, if_pos hl] at h
      exact .inr ⟨z, rfl, by rw [← lim_eq]; exact hl, h _ H (.refl _) (.int _)⟩
    · simp only [gLen, if_neg hl] at h; exact h.elim
  | [], _, h => exact h.elim
  | [.none], _, h => exact h.elim
  | [.bool _], _, h => exact h.elim
  | [.int _], _, h => exact h.elim
  | [.dict _], _, h => exact h.elim
  | d :: _ :: _, _, h => cases d <;> exact h.elim
def gAbs : GN
  | [.int i] => .val (.int (if i < 0 then -i else i))
  | _ => .bad
theorem call_absS : CallS (fun xs H Q => ∃ i, xs = [.int i] ∧ Q (.int (if i < 0 then -i else i)) H) gAbs := by
  intro O H xs ds Q hO hv h
  match ds, hv, h with
  | [.int i], hv, h =>
    obtain ⟨x, rfl, rfl⟩ := hv.one
    exact ⟨i, rfl, h _ H (.refl _) (.int _)⟩
  | [], _, h => exact h.elim
  | [.none], _, h => exact h.elim
  | [.bool _], _, h => exact h.elim
  | [.str _], _, h => exact h.elim
  | [.list _], _, h => exact h.elim
  | [.tuple _], _, h => exact h.elim
  | [.dict _], _, h => exact h.elim
  | d :: _ :: _, _, h => cases d <;> exact h.elim
def gMax2 : GN
  | [.int i, .int j] => .val (.int (if j > i then j else i))
  | _ => .bad
def gMin2 : GN
  | [.int i, .int j] => .val (.int (if j < i then j else i))
  | _ => .bad
theorem two_ints {O : Ow} {H : Hp} {xs : List V} {ds : List PyData} {g : GN} {f : Int → Int → PyData} {Q : VK} (hg : ∀ i j, g [.int i, .int j] = .val (f i j)) (hn : ∀ ds, (∀ i j, ds ≠ [.int i, .int j]) → g ds = .bad) (hv : VwA O H xs ds) (h : PRS O H Q (g ds)) :
    ∃ i j, xs = [.int i, .int j] ∧ PRS O H Q (.val (f i j)) := by
  by_cases e : ∃ i j, ds = [.int i, .int j]
  · obtain ⟨i, j, rfl⟩ := e
    obtain ⟨x, y, rfl, rfl, rfl⟩ := hv.two
    rw [hg] at h
    exact ⟨i, j, rfl, h⟩
  · rw [hn ds fun i j z => e ⟨i, j, z⟩] at h
    exact h.elim
theorem gMax2_bad : ∀ ds, (∀ i j, ds ≠ [.int i, .int j]) → gMax2 ds = .bad := by
  intro ds h
  unfold gMax2
  split
  · rename_i i j; exact absurd rfl (h i j)
  · rfl
theorem gMin2_bad : ∀ ds, (∀ i j, ds ≠ [.int i, .int j]) → gMin2 ds = .bad := by
  intro ds h
  unfold gMin2
  split
  · rename_i i j; exact absurd rfl (h i j)
  · rfl
theorem call_max2S : CallS (fun xs H Q => ∃ i j, xs = [.int i, .int j] ∧ Q (.int (if j > i then j else i)) H) gMax2 := by
  intro O H xs ds Q hO hv h
  obtain ⟨i, j, rfl, q⟩ := two_ints (fun _ _ => rfl) gMax2_bad hv h
  exact ⟨i, j, rfl, q _ H (.refl _) (.int _)⟩
theorem call_min2S : CallS (fun xs H Q => ∃ i j, xs = [.int i, .int j] ∧ Q (.int (if j < i then j else i)) H) gMin2 := by
  intro O H xs ds Q hO hv h
  obtain ⟨i, j, rfl, q⟩ := two_ints (fun _ _ => rfl) gMin2_bad hv h
  exact ⟨i, j, rfl, q _ H (.refl _) (.int _)⟩
def gInt : GN
  | [.int i] => .val (.int i)
  | [.bool b] => .val (.int (if b then 1 else 0))
  | _ => .bad
theorem call_intS : CallS (fun xs H Q => (∃ i, xs = [.int i] ∧ Q (.int i) H) ∨ ∃ k, xs = [.bl k] ∧ Q (.int (if k then 1 else 0)) H) gInt := by
  intro O H xs ds Q hO hv h
  match ds, hv, h with
  | [.int i], hv, h =>
    obtain ⟨x, rfl, rfl⟩ := hv.one
    exact .inl ⟨i, rfl, h _ H (.refl _) (.int _)⟩
  | [.bool b], hv, h =>
    obtain ⟨x, rfl, rfl⟩ := hv.one
    exact .inr ⟨b, rfl, h _ H (.refl _) (.int _)⟩
  | [], _, h => exact h.elim
  | [.none], _, h => exact h.elim
  | [.str _], _, h => exact h.elim
  | [.list _], _, h => exact h.elim
  | [.tuple _], _, h => exact h.elim
  | [.dict _], _, h => exact h.elim
  | d :: _ :: _, _, h => cases d <;> exact h.elim
def gTuple : GN
  | [.list ds] => .val (.tuple ds)
  | [.tuple ds] => .val (.tuple ds)
  | _ => .bad
theorem call_tupleS {K : PySem.W.Frag} : CallS (rTupT K) gTuple := by
  intro O H xs ds Q hO hv h
  match ds, hv, h with
  | [.list ds], hv, h =>
    obtain ⟨x, rfl, p, ys, rfl, e1, f1⟩ := hv.one
    exact ⟨p, ys, rfl, .inl ⟨.of e1, fun l o hl ho => h _ _ (.new hl) (.newT ho hO hl f1)⟩⟩
  | [.tuple ds], hv, h =>
    obtain ⟨x, rfl, p, ys, rfl, e1, n1, f1⟩ := hv.one
    exact ⟨p, ys, rfl, .inr ⟨e1.sq, h _ H (.refl _) (.tup e1 n1 f1)⟩⟩
  | [], _, h => exact h.elim
  | [.none], _, h => exact h.elim
  | [.bool _], _, h => exact h.elim
  | [.int _], _, h => exact h.elim
  | [.str _], _, h => exact h.elim
  | [.dict _], _, h => exact h.elim
  | d :: _ :: _, _, h => cases d <;> exact h.elim
def gList : GN
  | [.list ds] => .new ds
  | [.tuple ds] => .new ds
  | _ => .bad
theorem call_listS {K : PySem.W.Frag} : CallS (fun xs H Q => ∃ p ys, xs = [.ref p] ∧ (SqL K H p ys ∨ SqT K H p ys) ∧ ∀ l, H l = none → Q (.ref l) (upd H l (.lst ys))) gList := by
  intro O H xs ds Q hO hv h
  match ds, hv, h with
  | [.list ds], hv, h =>
    obtain ⟨x, rfl, p, ys, rfl, e1, f1⟩ := hv.one
    exact ⟨p, ys, rfl, .inl (.of e1), fun l hl => h l _ H _ (.refl _) hl (.new hl) upd_same f1⟩
  | [.tuple ds], hv, h =>
    obtain ⟨x, rfl, p, ys, rfl, e1, n1, f1⟩ := hv.one
    exact ⟨p, ys, rfl, .inr e1.sq, fun l hl => h l _ H _ (.refl _) hl (.new hl) upd_same f1⟩
  | [], _, h => exact h.elim
  | [.none], _, h => exact h.elim
  | [.bool _], _, h => exact h.elim
  | [.int _], _, h => exact h.elim
  | [.str _], _, h => exact h.elim
  | [.dict _], _, h => exact h.elim
  | d :: _ :: _, _, h => cases d <;> exact h.elim
/-! methods of lists -/
def gAppend : GM := fun ds es => match es with
  | [e] => if ds.length < lim then some (ds ++ [e], .none) else none
  | _ => none
theorem mut_append : MutS rAppend gAppend := by
  intro O H a xs ds vs es ds' c Q ha fx fe e k
  unfold gAppend at e
  match es, fe, e with
  | [x], fe, e =>
    by_cases hl : ds.length < lim
    · simp only [if_pos hl] at e
      cases e
      cases fe with
      | cons p q =>
        cases q
        exact ⟨a, xs, _, rfl, rfl, ha, by rw [fx.len, ← lim_eq]; exact hl, k _ _ (fx.append (.cons p .nil)) .non⟩
    · simp only [if_neg hl] at e; cases e
  | [], fe, e => cases e
  | _ :: _ :: _, fe, e => cases e
end
end DL

namespace DL
open PySem PySem.Spec PyProof.Rows L2
/-! ### repr -/
mutual
def shB : PyData → Nat
  | .none => 4
  | .bool _ => 5
  | .int i => bits i + 2
  | .str x => (reprText x).length
  | .list xs => 2 + shBA xs
  | .tuple xs => 3 + shBA xs
  | .dict _ => 0
def shBA : List PyData → Nat
  | [] => 0
  | x :: xs => shB x + 2 + shBA xs
end
def pil : List Str → Nat
  | [] => 0
  | t :: ts => t.length + 2 + pil ts
theorem sep_len (k : Nat) : (Str.ofString (if k > 0 then ", " else "")).length ≤ 2 := by split <;> decide
theorem textFrom_pil : ∀ (ts : List Str) (k : Nat) (acc : Str), (textFrom k acc ts).length ≤ acc.length + pil ts
  | [], k, acc => Nat.le_refl _
  | t :: ts, k, acc => by
    have ih := textFrom_pil ts (k + 1) (acc ++ (if k > 0 then ", " else "" : String) ++ t)
    have e : (acc ++ (if k > 0 then ", " else "" : String) ++ t : Str).length = acc.length + (Str.ofString (if k > 0 then ", " else "")).length + t.length := by
      rw [strLen_append, strLen_append]
    have := sep_len k
    show (textFrom (k + 1) _ ts).length ≤ acc.length + (t.length + 2 + pil ts)
    rw [e] at ih
    omega
theorem listText_pil (ts : List Str) : (listText ts).length ≤ 2 + pil ts := by
  have h := textFrom_pil ts 0 "["
  have e : (listText ts).length = (textFrom 0 "[" ts).length + 1 := by
    unfold listText; rw [strLen_append]; rfl
  have e1 : (("[" : String) : Str).length = 1 := rfl
  rw [e1] at h
  omega
theorem piled_pil : ∀ ts : List Str, piled ts = pil ts
  | [] => rfl
  | t :: ts => by
    have := piled_pil ts
    unfold pil
    rw [← this]
    simp [piled]
theorem tupleText_pil (ts : List Str) : (tupleText ts).length ≤ 3 + pil ts := by
  have e : (tupleText ts).length = 1 + (Str.join ", " ts).length + (Str.ofString (if ts.length == 1 then ",)" else ")")).length := by
    unfold tupleText; rw [strLen_append, strLen_append]; rfl
  have e1 : (Str.ofString (if ts.length == 1 then ",)" else ")")).length ≤ 2 := by split <;> decide
  by_cases h : ts = []
  · subst h
    have e2 : (Str.join ", " ([] : List Str)).length = 0 := rfl
    omega
  · have := join_length_add ts h
    rw [piled_pil] at this
    omega
mutual
theorem shown_len : ∀ d : PyData, d.hasDict = false → d.shown.length ≤ shB d
  | .none, _ => by decide
  | .bool b, _ => by cases b <;> decide
  | .int i, _ => by
    have h := int_text_length_le (a := i) (k := bits i + 1) (Nat.succ_pos _) (Nat.lt_succ_self _)
    have e : (PyData.int i).shown.length = (toString i).length := by
      show (Str.ofString (toString i)).length = _
      exact PySem.ofString_length _
    rw [e]
    exact h
  | .str x, _ => by simp only [PyData.shown, shB]; exact Nat.le_refl _
  | .list xs, h => by
    have := shownA_len xs (by simpa [PyData.hasDict] using h)
    simp only [PyData.shown, shB]
    exact Nat.le_trans (listText_pil _) (Nat.add_le_add_left this 2)
  | .tuple xs, h => by
    have := shownA_len xs (by simpa [PyData.hasDict] using h)
    simp only [PyData.shown, shB]
    exact Nat.le_trans (tupleText_pil _) (Nat.add_le_add_left this 3)
  | .dict _, h => by simp [PyData.hasDict] at h
theorem shownA_len : ∀ ds : List PyData, PyData.hasDictAll ds = false → pil (PyData.shownAll ds) ≤ shBA ds
  | [], _ => Nat.le_refl _
  | d :: ds, h => by
    simp only [PyData.hasDictAll, Bool.or_eq_false_iff] at h
    have h1 := shown_len d h.1
    have h2 := shownA_len ds h.2
    simp only [PyData.shownAll, pil, shBA]
    omega
end
def gRepr : GN
  | [d] => if d.showable = true ∧ d.hasDict = false ∧ d.depth ≤ 64 ∧ shB d ≤ lim then .val (.str d.shown) else .bad
  | _ => .bad
section
variable {X : Cx} {G : Gm} {W : Wi} {Z Z' : Ow} {B A A1 A2 A0 : Nat → Option Addr} {σ σ1 : L2.St} {H H1 H2 H0 : Hp} {ρ ρ1 ρ2 : Ev} {Q : VK} {v : V} {r : RV}
def rRepr (K : PySem.W.Frag) : List V → Hp → VK → Prop := fun xs H Q => ∃ x d, xs = [x] ∧ Dp K H x d ∧ d.showable = true ∧ d.hasDict = false ∧ d.depth ≤ 64 ∧ d.shown.length ≤ sizeLine ∧ Q (.str d.shown) H
theorem call_repr (hG : X.A.guards = some []) (hu : X.A.units + 66 < cLine) : CallR X (.builtin "repr") (rRepr X.K) := by
  intro pins s σ H xs us Q I r h
  obtain ⟨x, d, rfl, hd, h1, h2, h3, h4, q⟩ := h
  obtain ⟨u, rfl, ru⟩ := vals1 r
  obtain ⟨as, rd⟩ := Dp.reads I d x u hd ru
  cases hd with
  | non => cases ru; exact PySem.P.repr_of_none ⟨.str _, H, I.tok _, ⟨_, rfl⟩, q⟩
  | bl b => cases ru; exact PySem.P.repr_of_bool ⟨.str _, H, I.tok _, ⟨_, rfl⟩, q⟩
  | int i =>
    obtain ⟨t, rfl⟩ := ru
    exact PySem.P.repr_of_int (by simpa [PyData.showable] using h1) ⟨.str _, H, I.tok _, ⟨_, rfl⟩, q⟩
  | str z =>
    obtain ⟨t, rfl⟩ := ru
    exact PySem.P.repr_of_str ⟨.str _, H, I.tok _, ⟨_, rfl⟩, q⟩ h4
  | lst hs ha =>
    cases ru
    exact repr_of_reads' rd h1 (PyData.noDict_hsm h2) hG (by omega) (fun _ _ e => e) (fun h' u tk k => ⟨.str _, H, I.kept k, ⟨_, rfl⟩, q⟩) h4
  | tup hs ha =>
    cases ru
    exact repr_of_reads' rd h1 (PyData.noDict_hsm h2) hG (by omega) (fun _ _ e => e) (fun h' u tk k => ⟨.str _, H, I.kept k, ⟨_, rfl⟩, q⟩) h4
theorem call_reprS {K : PySem.W.Frag} : CallS (rRepr K) gRepr := by
  intro O H xs ds Q hO hv h
  match ds, hv, h with
  | [d], hv, h =>
    obtain ⟨x, rfl, hx⟩ := hv.one
    by_cases hl : d.showable = true ∧ d.hasDict = false ∧ d.depth ≤ 64 ∧ shB d ≤ lim
    · simp only [gRepr, if_pos hl] at h
      exact ⟨x, d, rfl, hx.dp hl.2.1, hl.1, hl.2.1, hl.2.2.1, by rw [← lim_eq]; exact Nat.le_trans (shown_len d hl.2.1) hl.2.2.2, h _ H (.refl _) (.str _)⟩
    · simp only [gRepr, if_neg hl] at h; exact h.elim
  | [], _, h => exact h.elim
  | _ :: _ :: _, _, h => exact h.elim

/-! ### list(range(..)), tuple(range(..)) -/
theorem rgV_fz {O : Ow} {H : Hp} (a b : Int) : FzA O H (rgV a b) (intsOf a (b - a).toNat) := by
  unfold rgV intsOf
  induction List.range (b - a).toNat with
  | nil => exact .nil
  | cons i r ih => exact .cons (.int _) ih
def okRg (a b : Int) : Bool := decide (-rlim ≤ a ∧ a < rlim ∧ -rlim ≤ b ∧ b < rlim ∧ (b - a).toNat ≤ lim)
theorem okRg_ok {a b : Int} (h : okRg a b = true) : RgOk a b := by
  have h := of_decide_eq_true h
  unfold rlim lim at h
  obtain ⟨h1, h2, h3, h4, h5⟩ := h
  exact ⟨by omega, by omega, by omega, by omega, by omega⟩
def eLR1 (a : EvE) : EvE := fun ρ => (a ρ).bind fun r ρ1 => match res ρ1 r with
  | some (.int j) => if okRg 0 j = true then .ok (.tmp (.list (intsOf 0 j.toNat))) ρ1 else .bad
  | _ => .bad
def eTR1 (a : EvE) : EvE := fun ρ => (a ρ).bind fun r ρ1 => match res ρ1 r with
  | some (.int j) => if okRg 0 j = true then .ok (.shr (.tuple (intsOf 0 j.toNat))) ρ1 else .bad
  | _ => .bad
section
variable {a e : Expr} {ea : EvE} {p p2 pos pos2 : Pos}
theorem de_listRg1 (hc : X.calm = true) (hg : Gl X "list") (hm : X.mg "list" = none) (hg2 : Gl X "range") (hm2 : X.mg "range" = none) (ha : DE X G W a ea) (na : starEach [a] X.env = (false, eval a X.env) :: starEach [] X.env := by rfl)
    (nb : starEach [.Call (.Name "range" p2) [a] [] pos2] X.env = (false, eval (.Call (.Name "range" p2) [a] [] pos2) X.env) :: starEach [] X.env := by rfl) : DE X G W (.Call (.Name "list" p) [.Call (.Name "range" p2) [a] [] pos2] [] pos) (eLR1 ea) :=
  ⟨PE_imp (pe_listRg hc hg hm (prg_1 hg2 hm2 ha.pe na) nb) fun σ H Q ⟨Z, B, ρ, A, R, d⟩ => dE_bind shift_E R d fun r1 ρ1 v H1 A1 R1 x1 f1 d1 => by
    cases e : res ρ1 r1 with
    | none => rw [e] at d1; exact d1.elim
    | some c =>
      rw [e] at d1
      have g := f1.vw R1 e
      cases c with
      | int j =>
        by_cases hj : okRg 0 j = true
        · simp only [if_pos hj] at d1
          refine ⟨j, g, okRg_ok hj, fun q hq => ?_⟩
          have f := rgV_fz (O := Oo Z A1) (H := H1) 0 j
          rw [show (j - 0).toNat = j.toNat by omega] at f
          exact prs_fin (p := .new _) R1 d1 q _ H1 _ (.refl _) hq (.new hq) upd_same f
        · simp only [if_neg hj] at d1; exact d1.elim
      | none => exact d1.elim
      | bool _ => exact d1.elim
      | str _ => exact d1.elim
      | list _ => exact d1.elim
      | tuple _ => exact d1.elim
      | dict _ => exact d1.elim⟩
theorem de_tupleRg1 (hc : X.calm = true) (hg : Gl X "tuple") (hm : X.mg "tuple" = none) (hg2 : Gl X "range") (hm2 : X.mg "range" = none) (ha : DE X G W a ea) (na : starEach [a] X.env = (false, eval a X.env) :: starEach [] X.env := by rfl)
    (nb : starEach [.Call (.Name "range" p2) [a] [] pos2] X.env = (false, eval (.Call (.Name "range" p2) [a] [] pos2) X.env) :: starEach [] X.env := by rfl) : DE X G W (.Call (.Name "tuple" p) [.Call (.Name "range" p2) [a] [] pos2] [] pos) (eTR1 ea) :=
  ⟨PE_imp (pe_tupRgT hc hg hm (prg_1 hg2 hm2 ha.pe na) nb) fun σ H Q ⟨Z, B, ρ, A, R, d⟩ => dE_bind shift_E R d fun r1 ρ1 v H1 A1 R1 x1 f1 d1 => by
    cases e : res ρ1 r1 with
    | none => rw [e] at d1; exact d1.elim
    | some c =>
      rw [e] at d1
      have g := f1.vw R1 e
      cases c with
      | int j =>
        by_cases hj : okRg 0 j = true
        · simp only [if_pos hj] at d1
          refine ⟨j, g, okRg_ok hj, fun q o hq ho => ?_⟩
          have f := rgV_fz (O := Oo Z A1) (H := H1) 0 j
          rw [show (j - 0).toNat = j.toNat by omega] at f
          exact d1 _ _ A1 (R1.ext (.new hq)) (.ext (.new hq)) (.newT ho R1.oin hq f)
        · simp only [if_neg hj] at d1; exact d1.elim
      | none => exact d1.elim
      | bool _ => exact d1.elim
      | str _ => exact d1.elim
      | list _ => exact d1.elim
      | tuple _ => exact d1.elim
      | dict _ => exact d1.elim⟩
end

/-! ### the script -/
def eScrLen (i : Nat) : EvE := fun ρ => match look ρ i with
  | .scr (.nums ns) => .ok (.shr (.int ns.length)) ρ
  | _ => .bad
theorem de_scrLen {i : Nat} {x : Str} {px p pos : Pos} (hv : PE X (.Name x px) (tVar i)) (hk : G.K = X.K) (hg : Gl X "len") (hm : X.mg "len" = none) (hs : starEach [.Name x px] X.env = (false, eval (.Name x px) X.env) :: starEach [] X.env := by rfl) (hpl : (backTo pos (starEach [] X.env)).any (·.1) = false := by rfl) :
    DE X G W (.Call (.Name "len" p) [.Name x px] [] pos) (eScrLen i) :=
  ⟨PE_imp (pe_callB call_len_seq hg hm PySem.boot_len (pa_cons hv pa_nil hs) (by decide) (by decide) hs hpl) fun σ H Q ⟨Z, B, ρ, A, R, d⟩ => by
    have q := R.at_ i
    unfold eScrLen at d
    cases l : look ρ i with
    | non => rw [l] at d; exact d.elim
    | dat c k => rw [l] at d; exact d.elim
    | scr ns =>
      rcases ns with ns | x | _
      rotate_left 1
      · rw [l] at d; exact d.elim
      · rw [l] at d; exact d.elim
      rw [l] at d q
      obtain ⟨a, h1, h2⟩ := q
      refine ⟨_, h1, a, _, rfl, .inl (by rw [← hk]; exact ScrR.sq h2), ?_⟩
      rw [List.length_map]
      exact d _ H A R .refl (.int _)⟩
def eScrIx (i : Nat) (e : EvE) : EvE := fun ρ => match look ρ i with
  | .scr (.nums _) => (e ρ).bind fun r ρ1 => match look ρ1 i, res ρ1 r with
    | .scr (.nums ns), some (.int k) => match atI ns k with
      | some n => .ok (.shr (.int n)) ρ1
      | none => .bad
    | _, _ => .bad
  | _ => .bad
theorem atI_map {α β : Type} {f : α → β} {l : List α} {k : Int} {n : α} (h : atI l k = some n) : atI (l.map f) k = some (f n) := by
  unfold atI at h ⊢
  rw [List.length_map]
  cases q : ixN l.length k with
  | none => rw [q] at h; cases h
  | some j =>
    rw [q] at h
    have h' : l[j]? = some n := h
    show (l.map f)[j]? = _
    rw [List.getElem?_map, h']; rfl
theorem de_scrIx {i : Nat} {x : Str} {e : Expr} {ee : EvE} {px pos : Pos} (hv : PE X (.Name x px) (tVar i)) (hk : G.K = X.K) (he : DE X G W e ee) (hp : PlainIx e) : DE X G W (.Subscript (.Name x px) e pos) (eScrIx i ee) :=
  ⟨PE_imp (pe_ix ix_list hv he.pe hp) fun σ H Q ⟨Z, B, ρ, A, R, d⟩ => by
    have q := R.at_ i
    unfold eScrIx at d
    cases l : look ρ i with
    | non => rw [l] at d; exact d.elim
    | dat c k => rw [l] at d; exact d.elim
    | scr ns0 =>
      rcases ns0 with ns0 | x0 | _
      rotate_left 1
      · rw [l] at d; exact d.elim
      · rw [l] at d; exact d.elim
      rw [l] at d q
      obtain ⟨a, h1, h2⟩ := q
      refine ⟨_, h1, dE_bind shift_E R d fun r ρ1 v H1 A1 R1 x1 f1 d1 => ?_⟩
      have q1 := R1.at_ i
      cases l1 : look ρ1 i with
      | non => simp only [l1] at d1; exact d1.elim
      | dat c k => simp only [l1] at d1; exact d1.elim
      | scr ns =>
        rcases ns with ns | x | _
        rotate_left 1
        · simp only [l1] at d1; cases res ρ1 r <;> exact d1.elim
        · simp only [l1] at d1; cases res ρ1 r <;> exact d1.elim
        rw [l1] at q1
        obtain ⟨a', g1, g2⟩ := q1
        rw [h1] at g1; cases g1
        cases e1 : res ρ1 r with
        | none => simp only [l1, e1] at d1; exact d1.elim
        | some c =>
          have g := f1.vw R1 e1
          simp only [l1, e1] at d1
          cases c with
          | int k =>
            cases e2 : atI ns k with
            | none => simp only [e2] at d1; exact d1.elim
            | some n =>
              simp only [e2] at d1
              exact ⟨a, _, k, .int n, rfl, g, by rw [← hk]; exact ScrR.sq g2, atI_map e2, d1 _ H1 A1 R1 .refl (.int n)⟩
          | none => exact d1.elim
          | bool _ => exact d1.elim
          | str _ => exact d1.elim
          | list _ => exact d1.elim
          | tuple _ => exact d1.elim
          | dict _ => exact d1.elim⟩
theorem dpA_ints {K : PySem.W.Frag} {H : Hp} : ∀ ns : List Int, DpAll K H (ns.map V.int) (ns.map PyData.int)
  | [] => .nil
  | n :: r => .cons (.int n) (dpA_ints r)
/-- script == e, script != e -/
def eScrCmp (i : Nat) (neg : Bool) (e : EvE) : EvE := fun ρ => match look ρ i with
  | .scr (.nums _) => (e ρ).bind fun r ρ1 => match look ρ1 i, res ρ1 r with
    | .scr (.nums ns), some d => if SeqAt.shaped (.list (ns.map .int)) = true ∧ SeqAt.shaped d = true then .ok (.shr (.bool (if neg then !PyData.eqv (.list (ns.map .int)) d else PyData.eqv (.list (ns.map .int)) d))) ρ1 else .bad
    | _, _ => .bad
  | _ => .bad
theorem scr_cmp {i : Nat} {neg : Bool} {ee : EvE} (hk : G.K = X.K) (R : Rep G Z B σ H ρ A) (d : Done G W Z B σ (pE G Z B σ Q) H A (eScrCmp i neg ee ρ)) :
    tOp (fun x y H Q => ∃ d e, Dp X.K H x d ∧ Dp X.K H y e ∧ SeqAt.shaped d = true ∧ SeqAt.shaped e = true ∧ Q (.bl (if neg then !PyData.eqv d e else PyData.eqv d e)) H) (tVar i) (dE G W ee) σ H Q := by
  have q := R.at_ i
  unfold eScrCmp at d
  cases l : look ρ i with
  | non => rw [l] at d; exact d.elim
  | dat c k => rw [l] at d; exact d.elim
  | scr ns0 =>
    rcases ns0 with ns0 | x0 | _
    rotate_left 1
    · rw [l] at d; exact d.elim
    · rw [l] at d; exact d.elim
    rw [l] at d q
    obtain ⟨a, h1, h2⟩ := q
    refine ⟨_, h1, dE_bind shift_E R d fun r ρ1 v H1 A1 R1 x1 f1 d1 => ?_⟩
    have q1 := R1.at_ i
    cases l1 : look ρ1 i with
    | non => simp only [l1] at d1; exact d1.elim
    | dat c k => simp only [l1] at d1; exact d1.elim
    | scr ns =>
      rcases ns with ns | x | _
      rotate_left 1
      · simp only [l1] at d1; cases res ρ1 r <;> exact d1.elim
      · simp only [l1] at d1; cases res ρ1 r <;> exact d1.elim
      rw [l1] at q1
      obtain ⟨a', g1, g2⟩ := q1
      rw [h1] at g1; cases g1
      cases e1 : res ρ1 r with
      | none => simp only [l1, e1] at d1; exact d1.elim
      | some c =>
        have g := f1.vw R1 e1
        simp only [l1, e1] at d1
        by_cases hs : SeqAt.shaped (.list (ns.map .int)) = true ∧ SeqAt.shaped c = true
        · simp only [if_pos hs] at d1
          exact ⟨_, c, .lst (by rw [← hk]; exact ScrR.sq g2) (dpA_ints ns), g.dp (PyData.hasDict_of_canLay _ (SeqAt.canLay_of_shaped hs.2)), hs.1, hs.2, d1 _ H1 A1 R1 .refl (.bl _)⟩
        · simp only [if_neg hs] at d1; exact d1.elim
theorem de_scrEq {i : Nat} {x : Str} {e : Expr} {ee : EvE} {px pos : Pos} (hu : X.A.units + 64 < cLine) (hv : PE X (.Name x px) (tVar i)) (hk : G.K = X.K) (he : DE X G W e ee) : DE X G W (.Compare (.Name x px) [.Eq] [e] pos) (eScrCmp i false ee) :=
  ⟨PE_imp (pe_cmpR (op_eqD hu) hv he.pe (nomark _)) fun σ H Q ⟨Z, B, ρ, A, R, d⟩ => scr_cmp hk R d⟩
theorem de_scrNe {i : Nat} {x : Str} {e : Expr} {ee : EvE} {px pos : Pos} (hu : X.A.units + 64 < cLine) (hv : PE X (.Name x px) (tVar i)) (hk : G.K = X.K) (he : DE X G W e ee) : DE X G W (.Compare (.Name x px) [.NotEq] [e] pos) (eScrCmp i true ee) :=
  ⟨PE_imp (pe_cmpR (op_neD hu) hv he.pe (nomark _)) fun σ H Q ⟨Z, B, ρ, A, R, d⟩ => scr_cmp hk R d⟩
theorem dt_scrEq {i : Nat} {x : Str} {e : Expr} {ee : EvE} {px pos : Pos} (hu : X.A.units + 64 < cLine) (hv : PE X (.Name x px) (tVar i)) (hk : G.K = X.K) (he : DE X G W e ee) : DT X G W (.Compare (.Name x px) [.Eq] [e] pos) (tV (eScrCmp i false ee)) :=
  ⟨PT_imp (pt_cmpR (op_eqD hu) hv he.pe (nomark _)) fun σ H Q ⟨Z, B, ρ, A, R, d⟩ => by
    obtain ⟨Z', B', ρ', A', R', d'⟩ := tv_ok R d
    exact scr_cmp hk R' d'⟩
theorem dt_scrNe {i : Nat} {x : Str} {e : Expr} {ee : EvE} {px pos : Pos} (hu : X.A.units + 64 < cLine) (hv : PE X (.Name x px) (tVar i)) (hk : G.K = X.K) (he : DE X G W e ee) : DT X G W (.Compare (.Name x px) [.NotEq] [e] pos) (tV (eScrCmp i true ee)) :=
  ⟨PT_imp (pt_cmpR (op_neD hu) hv he.pe (nomark _)) fun σ H Q ⟨Z, B, ρ, A, R, d⟩ => by
    obtain ⟨Z', B', ρ', A', R', d'⟩ := tv_ok R d
    exact scr_cmp hk R' d'⟩
end
/-! ### the law's end -/
/-- the digits of a text that is made a number have the usual limit -/
def NoDig (h : Heap) : Prop := ∃ mc, h.Ns cStatics mc ∧ mc "sys.int_max_str_digits" = none
/-- over a heap where nothing but the script is told -/
theorem law_core {P : Program} {w : World} {K : PySem.W.Frag} {mg mb : Str → Option Value} {k : Nat} {fa a : Addr} {fd : FuncData} {x : Str} {sp : Sp} {s₁ : Shared} {H : Hp} {CX : CXT}
    (hns : s₁.heap.Ns mainGlobals mg) (hb : s₁.heap.Ns builtinsNs mb) (hbb : ∀ x : Str, x ≠ "__name__" → mb x = bootBuiltins x) (hlim : s₁.heap.NoLimit) (hg : s₁.gens = #[]) (KX : K.In s₁.heap)
    (hr : Room k callerA) (hdig : NoDig s₁.heap) (F : ∀ base : Heap, K.In base → base.Ns mainGlobals mg → NoDig base → FnG P w K mg base CX k fa fd [x] sp) (hbind : ∀ (s : Shared) (u : Value), BindsTo s fd ⟨[u], []⟩ [(x, u)])
    (hsp : sp [.ref a] H (fun v _ => v = .bl true) fun _ _ _ => False) (hCX : ∀ e s', CX [] H s₁ (fun _ _ _ => False) e s' → False)
    (hO : Only H) (hok : HOk P w H s₁.heap) (hK : ∀ b, H b ≠ none → K.lookup b = none ∧ ∃ vs n, s₁.heap.get? b = some { cls := .type "list", data := .seq vs n }) :
    codeAny (model P w) callerA (.call (.ref fa) ⟨[.ref a], []⟩) (fun r s' => r = .ok (.ret (.bool true)) ∧ OldK s₁.heap s'.heap ∧ s'.os = s₁.os ∧ AllBare s'.gens) s₁ := by
  have stays : ∀ {b : Addr} {m : Str → Option Value}, s₁.heap.Ns b m → (hidT s₁.heap H).Ns b m := by
    rintro b m ⟨o, es, ep, e, d, r⟩
    refine ⟨o, es, ep, hidT_get e ?_, d, r⟩
    cases q : H b with
    | none => rfl
    | some u =>
      obtain ⟨_, vs, n, e2⟩ := hK b (by rw [q]; exact Option.some_ne_none _)
      rw [e] at e2; cases e2; cases d
  have inB : K.In (hidT s₁.heap H) := by
    intro b o e
    refine hidT_get (KX b o e) ?_
    cases q : H b with
    | none => rfl
    | some u => rw [(hK b (by rw [q]; exact Option.some_ne_none _)).1] at e; cases e
  have dig2 : NoDig (hidT s₁.heap H) := let ⟨mc, h1, h2⟩ := hdig; ⟨mc, stays h1, h2⟩
  have lim2 : (hidT s₁.heap H).NoLimit := by
    obtain ⟨mc, h1, h2⟩ := hlim
    exact ⟨mc, stays h1, h2⟩
  have e0 : Env0 P w K mg (hidT s₁.heap H) callerA [] s₁ H :=
    { frames := rfl, mod := ⟨inB, stays hns, ⟨mb, stays hb, hbb⟩, lim2⟩, bs := fun b o e => of_hidT e, bsz := Nat.le_of_eq (hidT_size _ _), funs := trivial, frf := fun b z => (by cases z), hok := hok, bare := .of_eq hg }
  refine codeAny_mono ((F _ inB (stays hns) dig2).run callerA [] s₁ H ⟨[.ref a], []⟩ [.ref a] [.ref a] _ _ hr rfl e0 (hbind s₁ (.ref a)) (.cons rfl .nil) hsp) fun r s' h => ?_
  match r, h with
  | .error e, h => exact (hCX e s' h).elim
  | .ok .next, h => exact h.elim
  | .ok .brk, h => exact h.elim
  | .ok .cont, h => exact h.elim
  | .ok (.ret u), ⟨v, H', os, bare, un, hok', r', q⟩ =>
    have q' : v = .bl true := q
    subst q'
    cases r'
    refine ⟨rfl, OldK.of_keep fun b o e => ?_, os, bare⟩
    cases qb : H b with
    | none => exact un.keep b o e qb (fun z => by cases z) (fun z => by cases z)
    | some u =>
      rcases hO b with z | ⟨ob, xs, z⟩
      · rw [qb] at z; cases z
      · have h1 := (hok b _ z).1
        rw [e] at h1; cases h1
        exact (hok' b _ (un.frzs b _ _ z)).1
theorem law_callG {P : Program} {w : World} {K : PySem.W.Frag} {mg mb : Str → Option Value} {k : Nat} {fa a : Addr} {fd : FuncData} {x : Str} {sp : Sp} {s₁ : Shared} {vs : List Value} {ns : List Int} {CX : CXT}
    (KX : K.In s₁.heap) (hns : s₁.heap.Ns mainGlobals mg) (hb : s₁.heap.Ns builtinsNs mb) (hbb : ∀ x : Str, x ≠ "__name__" → mb x = bootBuiltins x) (hlim : s₁.heap.NoLimit) (hg : s₁.gens = #[])
    (ha : s₁.heap.get? a = some { cls := .type "list", data := .seq vs.toArray }) (hi : IntsAre vs ns) (hl : ns.length ≤ sizeLine) (hr : Room k callerA)
    (hdig : NoDig s₁.heap) (F : ∀ base : Heap, K.In base → base.Ns mainGlobals mg → NoDig base → FnG P w K mg base CX k fa fd [x] sp) (hbind : ∀ (s : Shared) (u : Value), BindsTo s fd ⟨[u], []⟩ [(x, u)])
    (hsp : ∀ H : Hp, ScrR K (fun _ => False) H a ns → sp [.ref a] H (fun v _ => v = .bl true) fun _ _ _ => False) (hCX : ∀ H e s', CX [] H s₁ (fun _ _ _ => False) e s' → False) :
    codeAny (model P w) callerA (.call (.ref fa) ⟨[.ref a], []⟩) (fun r s' => r = .ok (.ret (.bool true)) ∧ OldK s₁.heap s'.heap ∧ s'.os = s₁.os ∧ AllBare s'.gens) s₁ := by
  have rv := vals_ints hi
  cases hk : K.lookup a with
  | some o =>
    have e := KX a o hk
    rw [ha] at e; cases e
    have kn : SqL K (fun _ => none) a (ns.map V.int) := .inr ⟨_, vs.toArray, _, hk, rfl, rfl, rfl, by rw [List.size_toArray, hi.length]; exact hl, by simpa using rv⟩
    exact law_core (H := fun _ => none) hns hb hbb hlim hg KX hr hdig F hbind (hsp _ (.inr kn)) (hCX _) (fun _ => .inl rfl) (fun b u z => by cases (show (none : Option HO) = some u from z)) (fun b z => absurd rfl z)
  | none =>
    let T : Obj := { cls := .type "list", data := .seq vs.toArray }
    let HS : Hp := fun b => if b = a then some (.frz T (.lst (ns.map V.int))) else none
    have at_a : HS a = some (.frz T (.lst (ns.map V.int))) := if_pos rfl
    have only_a : ∀ b u, HS b = some u → b = a ∧ u = .frz T (.lst (ns.map V.int)) := by
      intro b u z
      by_cases e : b = a
      · rw [e, at_a] at z; cases z; exact ⟨e, rfl⟩
      · rw [show HS b = none from if_neg e] at z; cases z
    have okS : HOk P w HS s₁.heap := by
      intro b u z
      obtain ⟨rfl, rfl⟩ := only_a b u z
      exact ⟨ha, by rw [List.length_map]; exact hl, vs, _, rv, ha⟩
    refine law_core (H := HS) hns hb hbb hlim hg KX hr hdig F hbind (hsp _ (.inl ⟨⟨T, at_a⟩, fun z => z⟩)) (hCX _) (fun b => ?_) okS (fun b z => ?_)
    · cases q : HS b with
      | none => exact .inl rfl
      | some u => rw [(only_a b u q).2]; exact .inr ⟨_, _, rfl⟩
    · cases q : HS b with
      | none => exact absurd q z
      | some u => rw [(only_a b u q).1]; exact ⟨hk, _, _, ha⟩
/-- the goal that k_head leaves (case hc): the law's def on data answers True -/
theorem walk_G {l : PySem.W.OpenLaw} {n k : Nat} {q : Program} {loose : List Str} {XP : (Str → Option Value) → Heap → Prop} {YP : World → Heap → Prop} {d : DefRec} {K : Params → PySem.W.Frag} {CX : World → CXT} {G : World → Gm} {F : FnD} {x : Str}
    (hn : l.most = some n) (hn2 : n ≤ sizeLine) (hdf : d.params.defaults = []) (hr : Room k callerA) (hY : ∀ (w : World) (h : Heap), YP w h → (K w.params).In h) (hGK : ∀ w, (G w).K = K w.params)
    (hT : ∀ w, (G w).T = [] ∧ (G w).tk = none)
    (hF : ∀ (w : World) (mg : Str → Option Value) (fa : Addr) (h : Heap), (K w.params).In h → h.Ns mainGlobals mg → mg d.name = some (.ref fa) →
      ∃ fd : FuncData, (∀ (s : Shared) (u : Value), BindsTo s fd ⟨[u], []⟩ [(x, u)]) ∧ ∀ base : Heap, (K w.params).In base → base.Ns mainGlobals mg → NoDig base → FnG l.prog w (K w.params) mg base (CX w) k fa fd [x] (spD (G w) 1 F))
    (hlaw : ∀ ns : List Int, ns.length ≤ n → (∀ m ∈ ns, bits m ≤ 1048576) → ∃ ρ, F [.scr (.nums ns)] = .ok (.shr (.bool true)) ρ)
    (hCX : ∀ (w : World) (H : Hp) (s : Shared) (e : Value) (s' : Shared), CX w [] H s (fun _ _ _ => False) e s' → False) :
    PySem.W.WalkO q loose XP YP l.row.toRowW d [] (fun f vs => PySem.call f vs) := by
  refine Att.attach_callB hn hdf fun w s₀ s₁ mg mb fa o pm cd doc a vs ns Gr Y ho hd hcd hmg hobj hints hlen hbits hg => ?_
  have KX := hY w _ Y
  obtain ⟨fd, hb, hFn⟩ := hF w mg fa _ KX Gr.T.g hmg
  refine law_callG KX Gr.T.g Gr.T.b Gr.T.builtins Gr.T.nolimit hg hobj hints (Nat.le_trans hlen hn2) hr Gr.T.nodigits hFn hb (fun H hs => ?_) fun H e s' => hCX w H s₁ e s'
  refine ⟨rfl, fun _ => False, fun _ => none, [.scr (.nums ns)], ⟨rfl, fun i => ?_, fun i j b e => (by cases e), fun i b e => (by cases e), fun b z => z.elim, fun i b e => (by cases e), fun i b e => (by cases e), ⟨by rw [(hT w).1]; exact fun p hp => (by cases hp), fun T e => (by rw [(hT w).2] at e; cases e)⟩⟩, ?_⟩
  · match i with
    | 0 => exact ⟨a, rfl, show ScrR (G w).K _ _ _ _ by rw [hGK w]; exact hs.mono kp0 fun b z => z.elim False.elim fun ⟨j, e⟩ => (by cases e)⟩
    | i + 1 => trivial
  · obtain ⟨ρ, e⟩ := hlaw ns hlen (fun m hm => by
      have h := hbits m hm
      unfold Builtin.Int.intBits at h
      unfold bits
      split at h <;> rename_i h0
      · have e0 : m = 0 := by simpa using h0
        subst e0; decide
      · omega)
    rw [e]
    intro v H' _ _ f
    cases f
    rfl
/-! ### defs that let no error out -/
def noEx (r : Ro RV) : Ro RV := match r with
  | .exc _ _ => .bad
  | r => r
def defF0 (np n : Nat) (body : EvS) : FnD := fun args => noEx (defF np n body args)
theorem pat0 {X : Cx} {σ : L2.St} {E : XK} : PassesAt CX0 X σ E := fun _ _ _ _ _ _ h => h.elim
abbrev gm (K : PySem.W.Frag) : Gm := ⟨K, fun _ => none, fun _ => "", [], none⟩
theorem SDn.noex {X : Cx} {G : Gm} {W W' : Wi} {Z : Ow} {B A : Nat → Option Addr} {H : Hp} {D : Ends} : ∀ {r : Ro Fl}, (∀ x ρ, r ≠ .exc x ρ) → SDn G W Z B D H A r → SDn G W' Z B D H A r
  | .ok .nx _, _, h => h
  | .ok .brk _, _, h => h
  | .ok .ct _, _, h => h
  | .ok (.ret (.shr _)) _, _, h => h
  | .ok (.ret (.tmp _)) _, _, h => h
  | .ok (.ret (.var _)) _, _, h => h
  | .exc x ρ, n, _ => absurd rfl (n x ρ)
  | .bad, _, h => h
theorem ok_def0 {P : Program} {w : World} {K : PySem.W.Frag} {mg : Str → Option Value} {base : Heap} {G : Gm} {k : Nat} {f : Addr} {fd : FuncData} {N ps : List Str} {name qual : Str} {st : Stmt} {body : EvS} (F : Fun K name qual st f fd) (S : FnScope N ps (defScope st))
    (hb : ∀ (cdv : Value) (A : Around) (outer : List Env) (s : Shared) (H : Hp) (E : XK), Room k (A.deeper (envOfC qual (defScope st) s.heap.objs.size f cdv)) → A.guards = some [] →
      DSs (cxOf CX0 P w K mg base N qual (defScope st) f cdv A outer s H E).nox G Wn (defBody st) body) :
    FnG P w K mg base CX0 (k + 1) f fd ps (spD G ps.length (defF0 ps.length N.length body)) := by
  have key : FnG P w K mg base CX0 (k + 1) f fd ps (fun vs H Q E => spD G ps.length (defF0 ps.length N.length body) vs H Q E) := by
    obtain ⟨oc, od, kV, doc, pm, an, cdv, ct, osl, rfl, lk, hcd⟩ := F.ex
    have hpl : ps.length ≤ N.length := by
      have := congrArg List.length S.pre
      rw [List.length_take] at this
      omega
    refine fnG_of lk hcd S (fun vs H Q E h => h.1) fun A outer s H vs Q E hr hG ⟨hl, Z, B, args, R, c⟩ => ?_
    refine ⟨_, (hb cdv A outer s H E hr hG).pss.nox, ?_⟩
    have ha : args.length = ps.length := by rw [R.len, List.length_map, hl]
    have ne : ∀ x ρ, body (args ++ List.replicate (N.length - ps.length) .non) ≠ .exc x ρ := fun x ρ e => by
      unfold defF0 defF at c
      rw [if_pos ha, e] at c
      exact c
    have := body_end (E := E) (body := body) R hl hpl (by
      have e0 : defF0 ps.length N.length body args = defF ps.length N.length body args := by
        unfold defF0 defF
        rw [if_pos ha]
        cases q : body (args ++ List.replicate (N.length - ps.length) .non) with
        | exc x ρ => exact absurd q (ne x ρ)
        | bad => rfl
        | ok fl ρ =>
          cases fl with
          | nx => rfl
          | brk => rfl
          | ct => rfl
          | ret r => rfl
      rw [← e0]; exact c)
    obtain ⟨Z1, B1, ρ1, A1, R1, e1, d1⟩ := this
    subst e1
    exact ⟨Z1, B1, _, A1, R1, d1.noex (X := cxOf CX0 P w K mg base N qual (defScope st) f cdv A outer s H E) ne⟩
  exact key
theorem funKbg {K : PySem.W.Frag} {x qual : Str} {st : Stmt} {f : Addr} {fd : FuncData} {ps ks : List Str} {pi : List Nat} (F : Fun K x qual st f fd)
    (h : ∀ (kV doc pm : Value) (an : Option Addr) (cdv ct : Value) (ws : List Value), ws.length = ks.length → bindArgs (PySem.W.fnOf x qual (defArgs st) (defBody st) (defScope st) .none kV doc pm an cdv ct) ⟨[], ks.zip ws⟩ = pure (ps.zip (permL ws pi))) : KBG K fd ps ks pi := by
  obtain ⟨oc, od, kV, doc, pm, an, cdv, ct, osl, rfl, lk, hcd⟩ := F.ex
  exact fun s ws _ hl => .of_eq (h kV doc pm an cdv ct ws hl)
end DL

namespace DL
open PySem PySem.Spec PyProof.Rows L2
/-! ### how the functions on data are reckoned: equations for simp -/
theorem bind_congr {α β : Type} {x y : Ro α} {f : α → Ev → Ro β} (h : x = y) : x.bind f = y.bind f := by rw [h]
theorem bind_ok {α β : Type} {a : α} {ρ : Ev} {f : α → Ev → Ro β} : (Ro.ok a ρ).bind f = f a ρ := rfl
theorem bind_exc {α β : Type} {e : Ex} {ρ : Ev} {f : α → Ev → Ro β} : (Ro.exc e ρ : Ro α).bind f = .exc e ρ := rfl
theorem bind_bad {α β : Type} {f : α → Ev → Ro β} : (Ro.bad : Ro α).bind f = .bad := rfl
theorem look_0 {s : Sl} {r : Ev} : look (s :: r) 0 = s := rfl
theorem look_s {s : Sl} {r : Ev} {i : Nat} : look (s :: r) (i + 1) = look r i := rfl
theorem put_0 {s t : Sl} {r : Ev} : put (s :: r) 0 t = t :: r := rfl
theorem put_s {s t : Sl} {r : Ev} {i : Nat} : put (s :: r) (i + 1) t = s :: put r i t := rfl
theorem out_val {d : PyData} {ρ : Ev} : (PR.val d).out ρ = .ok (.shr d) ρ := rfl
theorem out_new {d : List PyData} {ρ : Ev} : (PR.new d).out ρ = .ok (.tmp (.list d)) ρ := rfl
theorem out_bad {ρ : Ev} : (PR.bad).out ρ = .bad := rfl
theorem res_shr {d : PyData} {ρ : Ev} : res ρ (.shr d) = some d := rfl
theorem res_tmp {d : PyData} {ρ : Ev} : res ρ (.tmp d) = some d := rfl
def slD : Sl → Option PyData
  | .dat d _ => some d
  | _ => none
theorem res_var {i : Nat} {ρ : Ev} : res ρ (.var i) = slD (look ρ i) := by unfold res slD; rfl
theorem slD_dat {d : PyData} {k : Kd} : slD (.dat d k) = some d := rfl
def slV (i : Nat) (ρ : Ev) : Sl → Ro RV
  | .dat d .frz => .ok (.shr d) ρ
  | .non => .bad
  | _ => .ok (.var i) ρ
theorem eV_ {i : Nat} {ρ : Ev} : eV i ρ = slV i ρ (look ρ i) := by
  unfold eV slV
  cases look ρ i with
  | non => rfl
  | scr _ => rfl
  | dat d k => cases k <;> rfl
theorem slV_frz {i : Nat} {ρ : Ev} {d : PyData} : slV i ρ (.dat d .frz) = .ok (.shr d) ρ := rfl
theorem slV_own {i : Nat} {ρ : Ev} {d : PyData} : slV i ρ (.dat d .own) = .ok (.var i) ρ := rfl
theorem slV_par {i : Nat} {ρ : Ev} {d : PyData} : slV i ρ (.dat d .par) = .ok (.var i) ρ := rfl
theorem slV_scr {i : Nat} {ρ : Ev} {ns : Th} : slV i ρ (.scr ns) = .ok (.var i) ρ := rfl
theorem eC_d {d : PyData} {ρ : Ev} : eC d ρ = .ok (.shr d) ρ := rfl
theorem eOp_ {g : G2} {a b : EvE} {ρ : Ev} : eOp g a b ρ = (a ρ).bind fun r ρ1 => (b ρ1).bind fun s ρ2 => (p2 g ρ2 r s).out ρ2 := rfl
def p2o (g : G2) : Option PyData → Option PyData → PR
  | some x, some y => g x y
  | _, _ => .bad
theorem p2_ {g : G2} {ρ : Ev} {r s : RV} : p2 g ρ r s = p2o g (res ρ r) (res ρ s) := by
  unfold p2 p2o; cases res ρ r <;> cases res ρ s <;> rfl
theorem p2o_ {g : G2} {x y : PyData} : p2o g (some x) (some y) = g x y := rfl
theorem eUn_ {g : G1} {a : EvE} {ρ : Ev} : eUn g a ρ = (a ρ).bind fun r ρ1 => (p1 g ρ1 r).out ρ1 := rfl
def p1o (g : G1) : Option PyData → PR
  | some x => g x
  | none => .bad
theorem p1_ {g : G1} {ρ : Ev} {r : RV} : p1 g ρ r = p1o g (res ρ r) := by unfold p1 p1o; cases res ρ r <;> rfl
theorem p1o_ {g : G1} {x : PyData} : p1o g (some x) = g x := rfl
theorem eNil_ {ρ : Ev} : eNil ρ = .ok [] ρ := rfl
theorem eCons_ {a : EvE} {r : EvA} {ρ : Ev} : eCons a r ρ = (a ρ).bind fun x ρ1 => (r ρ1).bind fun xs ρ2 => .ok (x :: xs) ρ2 := rfl
theorem eConsO_ {a : EvE} {r : EvA} {ρ : Ev} : eConsO a r ρ = (a ρ).bind fun x ρ1 => match x with
  | .var _ => .bad
  | x => (r ρ1).bind fun xs ρ2 => .ok (x :: xs) ρ2 := rfl
theorem resA_nil {ρ : Ev} : resA ρ [] = some [] := rfl
def cns : Option PyData → Option (List PyData) → Option (List PyData)
  | some d, some ds => some (d :: ds)
  | _, _ => none
theorem resA_cons {ρ : Ev} {r : RV} {rs : List RV} : resA ρ (r :: rs) = cns (res ρ r) (resA ρ rs) := by
  show (match res ρ r, resA ρ rs with
    | some d, some ds => some (d :: ds)
    | _, _ => none) = _
  cases res ρ r <;> cases resA ρ rs <;> rfl
theorem cns_ {d : PyData} {ds : List PyData} : cns (some d) (some ds) = some (d :: ds) := rfl
theorem eB_ {g : GN} {a : EvA} {ρ : Ev} : eB g a ρ = (a ρ).bind fun rs ρ1 => (pN g ρ1 rs).out ρ1 := rfl
def pNo (g : GN) : Option (List PyData) → PR
  | some ds => g ds
  | none => .bad
theorem pN_ {g : GN} {ρ : Ev} {rs : List RV} : pN g ρ rs = pNo g (resA ρ rs) := by unfold pN pNo; cases resA ρ rs <;> rfl
theorem pNo_ {g : GN} {ds : List PyData} : pNo g (some ds) = g ds := rfl
theorem eEsc_ {a : EvE} {ρ : Ev} : eEsc a ρ = (a ρ).bind fun r ρ1 => (escR ρ1 r).bind fun d ρ2 => .ok (.shr d) ρ2 := rfl
theorem escR_shr {ρ : Ev} {d : PyData} : escR ρ (.shr d) = .ok d ρ := rfl
theorem escR_tmp {ρ : Ev} {d : PyData} : escR ρ (.tmp d) = .ok d ρ := rfl
def slE (i : Nat) (ρ : Ev) : Sl → Ro PyData
  | .dat d .frz => .ok d ρ
  | .dat d .own => .ok d (put ρ i (.dat d .frz))
  | _ => .bad
theorem escR_var {ρ : Ev} {i : Nat} : escR ρ (.var i) = slE i ρ (look ρ i) := by
  show (match look ρ i with
    | .dat d .frz => Ro.ok d ρ
    | .dat d .own => .ok d (put ρ i (.dat d .frz))
    | _ => .bad) = _
  cases look ρ i with
  | non => rfl
  | scr _ => rfl
  | dat d k => cases k <;> rfl
theorem slE_frz {i : Nat} {ρ : Ev} {d : PyData} : slE i ρ (.dat d .frz) = .ok d ρ := rfl
theorem slE_own {i : Nat} {ρ : Ev} {d : PyData} : slE i ρ (.dat d .own) = .ok d (put ρ i (.dat d .frz)) := rfl
theorem shrs_nil : shrs [] = some [] := rfl
theorem shrs_shr {d : PyData} {r : List RV} : shrs (.shr d :: r) = (shrs r).map (d :: ·) := rfl
theorem shrs_tmp {d : PyData} {r : List RV} : shrs (.tmp d :: r) = (shrs r).map (d :: ·) := rfl
def mkT (ρ : Ev) : Option (List PyData) → Ro RV
  | some ds => if ds.length ≤ lim then .ok (.shr (.tuple ds)) ρ else .bad
  | none => .bad
theorem eTup_ {a : EvA} {ρ : Ev} : eTup a ρ = (a ρ).bind fun rs ρ1 => mkT ρ1 (shrs rs) := by
  show (a ρ).bind _ = _
  congr 1
theorem mkT_ {ρ : Ev} {ds : List PyData} (h : ds.length ≤ 16777216) : mkT ρ (some ds) = .ok (.shr (.tuple ds)) ρ := if_pos h
def mkL (ρ : Ev) : Option (List PyData) → Ro RV
  | some ds => if ds.length ≤ lim then .ok (.tmp (.list ds)) ρ else .bad
  | none => .bad
theorem eLst_ {a : EvA} {ρ : Ev} : eLst a ρ = (a ρ).bind fun rs ρ1 => mkL ρ1 (shrs rs) := by
  show (a ρ).bind _ = _
  congr 1
theorem mkL_ {ρ : Ev} {ds : List PyData} (h : ds.length ≤ 16777216) : mkL ρ (some ds) = .ok (.tmp (.list ds)) ρ := if_pos h
/-! tests -/
def okB (ρ : Ev) : Option PyData → Ro Bool
  | some (.bool b) => .ok b ρ
  | _ => .bad
theorem tV_ {a : EvE} {ρ : Ev} : tV a ρ = (a ρ).bind fun r ρ1 => okB ρ1 (res ρ1 r) := by
  show (a ρ).bind _ = _
  congr 1
theorem okB_ {b : Bool} {ρ : Ev} : okB ρ (some (.bool b)) = .ok b ρ := rfl
theorem tNo_ {a : EvT} {ρ : Ev} : tNo a ρ = (a ρ).bind fun b ρ1 => .ok (!b) ρ1 := rfl
theorem tAnd2_ {a b : EvT} {ρ : Ev} : tAnd2 a b ρ = (a ρ).bind fun c ρ1 => if c = true then b ρ1 else .ok false ρ1 := rfl
theorem tOr2_ {a b : EvT} {ρ : Ev} : tOr2 a b ρ = (a ρ).bind fun c ρ1 => if c = true then .ok true ρ1 else b ρ1 := rfl
theorem tTrue_ {ρ : Ev} : tTrue ρ = .ok true ρ := rfl
def bD : Option PyData → Option Bool
  | some (.bool b) => some b
  | _ => none
theorem asB_ {ρ : Ev} {r : RV} : asB ρ r = bD (res ρ r) := rfl
theorem bD_ {b : Bool} : bD (some (.bool b)) = some b := rfl
theorem eAnd_ {a b : EvE} {ρ : Ev} : eAnd a b ρ = (a ρ).bind fun r ρ1 => match asB ρ1 r with
  | some true => b ρ1
  | some false => .ok (.shr (.bool false)) ρ1
  | none => .bad := rfl
theorem eOr_ {a b : EvE} {ρ : Ev} : eOr a b ρ = (a ρ).bind fun r ρ1 => match asB ρ1 r with
  | some true => .ok (.shr (.bool true)) ρ1
  | some false => b ρ1
  | none => .bad := rfl
theorem eNot_ {a : EvE} {ρ : Ev} : eNot a ρ = (a ρ).bind fun r ρ1 => match asB ρ1 r with
  | some b => .ok (.shr (.bool (!b))) ρ1
  | none => .bad := rfl
theorem eIf_ {t : EvT} {a b : EvE} {ρ : Ev} : eIf t a b ρ = (t ρ).bind fun c ρ1 => if c = true then a ρ1 else b ρ1 := rfl
/-! statements -/
theorem sNil_ {ρ : Ev} : sNil ρ = .ok .nx ρ := rfl
theorem sPass_ {ρ : Ev} : sPass ρ = .ok .nx ρ := rfl
theorem sBrk_ {ρ : Ev} : sBrk ρ = .ok .brk ρ := rfl
theorem sCt_ {ρ : Ev} : sCt ρ = .ok .ct ρ := rfl
def goOn (r : EvS) (ρ : Ev) : Fl → Ro Fl
  | .nx => r ρ
  | f => .ok f ρ
theorem sSeq_ {s r : EvS} {ρ : Ev} : sSeq s r ρ = (s ρ).bind fun f ρ1 => goOn r ρ1 f := by
  show (s ρ).bind _ = _
  congr 1
theorem goOn_nx {r : EvS} {ρ : Ev} : goOn r ρ .nx = r ρ := rfl
theorem goOn_ret {r : EvS} {ρ : Ev} {v : RV} : goOn r ρ (.ret v) = .ok (.ret v) ρ := rfl
theorem goOn_brk {r : EvS} {ρ : Ev} : goOn r ρ .brk = .ok .brk ρ := rfl
theorem goOn_ct {r : EvS} {ρ : Ev} : goOn r ρ .ct = .ok .ct ρ := rfl
theorem sEx_ {a : EvE} {ρ : Ev} : sEx a ρ = (a ρ).bind fun _ ρ1 => .ok .nx ρ1 := rfl
theorem sIf_ {c : EvT} {a b : EvS} {ρ : Ev} : sIf c a b ρ = (c ρ).bind fun k ρ1 => if k = true then a ρ1 else b ρ1 := rfl
theorem sRet_ {a : EvE} {ρ : Ev} : sRet a ρ = (a ρ).bind fun r ρ1 => retR ρ1 r := rfl
theorem retR_shr {ρ : Ev} {d : PyData} : retR ρ (.shr d) = .ok (.ret (.shr d)) ρ := rfl
theorem retR_tmp {ρ : Ev} {d : PyData} : retR ρ (.tmp d) = .ok (.ret (.tmp d)) ρ := rfl
def slR (i : Nat) (ρ : Ev) : Sl → Ro Fl
  | .dat d .frz => .ok (.ret (.shr d)) ρ
  | .dat d .own => .ok (.ret (.tmp d)) (put ρ i .non)
  | _ => .bad
theorem retR_var {ρ : Ev} {i : Nat} : retR ρ (.var i) = slR i ρ (look ρ i) := by
  show (match look ρ i with
    | .dat d .frz => Ro.ok (Fl.ret (.shr d)) ρ
    | .dat d .own => .ok (.ret (.tmp d)) (put ρ i .non)
    | _ => .bad) = _
  cases look ρ i with
  | non => rfl
  | scr _ => rfl
  | dat d k => cases k <;> rfl
theorem slR_frz {i : Nat} {ρ : Ev} {d : PyData} : slR i ρ (.dat d .frz) = .ok (.ret (.shr d)) ρ := rfl
theorem slR_own {i : Nat} {ρ : Ev} {d : PyData} : slR i ρ (.dat d .own) = .ok (.ret (.tmp d)) (put ρ i .non) := rfl
theorem sRetN_ {ρ : Ev} : sRetN ρ = .ok (.ret (.shr .none)) ρ := rfl
def setR (i : Nat) (ρ : Ev) : RV → Ro Fl
  | .shr d => .ok .nx (put ρ i (.dat d .frz))
  | .tmp d => .ok .nx (put ρ i (.dat d .own))
  | .var _ => .bad
theorem sSet_ {i : Nat} {a : EvE} {ρ : Ev} : sSet i a ρ = (a ρ).bind fun r ρ1 => if settable (look ρ1 i) = true then setR i ρ1 r else .bad := by
  show (a ρ).bind _ = _
  congr 1
theorem setR_shr {i : Nat} {ρ : Ev} {d : PyData} : setR i ρ (.shr d) = .ok .nx (put ρ i (.dat d .frz)) := rfl
theorem setR_tmp {i : Nat} {ρ : Ev} {d : PyData} : setR i ρ (.tmp d) = .ok .nx (put ρ i (.dat d .own)) := rfl
theorem settable_frz {d : PyData} : settable (.dat d .frz) = true := rfl
theorem settable_own {d : PyData} : settable (.dat d .own) = true := rfl
theorem settable_non : settable .non = true := rfl
theorem settable_scr {ns : Th} : settable (.scr ns) = true := rfl
theorem gN_ {i : Nat} {d : PyData} {ρ : Ev} : gN i d ρ = if settable (look ρ i) = true then some (put ρ i (.dat d .frz)) else none := rfl
theorem gNl_ {ρ : Ev} : gNl [] ρ = some ρ := rfl
theorem gCs_ {g : EvG} {h : EvGs} {d : PyData} {r : List PyData} {ρ : Ev} : gCs g h (d :: r) ρ = (g d ρ).bind fun ρ1 => h r ρ1 := by
  show (match g d ρ with
    | some ρ1 => h r ρ1
    | none => none) = _
  cases g d ρ <;> rfl
theorem gT_ {n : Nat} {h : EvGs} {ds : List PyData} {ρ : Ev} : gT n h (.tuple ds) ρ = if ds.length = n then h ds ρ else none := rfl
def toR (g : EvG) (d : PyData) (ρ : Ev) : Ro Fl := match g d ρ with
  | some ρ3 => .ok .nx ρ3
  | none => .bad
theorem sTo_ {a : EvE} {g : EvG} {ρ : Ev} : sTo a g ρ = (a ρ).bind fun r ρ1 => (escR ρ1 r).bind fun d ρ2 => toR g d ρ2 := rfl
theorem toR_ {g : EvG} {d : PyData} {ρ ρ' : Ev} (h : g d ρ = some ρ') : toR g d ρ = .ok .nx ρ' := by unfold toR; rw [h]
theorem putR_shr {ρ : Ev} {i : Nat} {d : PyData} : putR ρ i (.shr d) = if settable (look ρ i) = true then some (put ρ i (.dat d .frz)) else none := rfl
theorem putR_tmp {ρ : Ev} {i : Nat} {d : PyData} : putR ρ i (.tmp d) = if settable (look ρ i) = true then some (put ρ i (.dat d .own)) else none := rfl
def parR2 (i j : Nat) (ρ : Ev) : List RV → Ro Fl
  | [r, s] => match (putR ρ i r).bind fun ρ2 => putR ρ2 j s with
    | some ρ3 => .ok .nx ρ3
    | none => .bad
  | _ => .bad
theorem sPar_ {i j : Nat} {a : EvA} {ρ : Ev} : sPar i j a ρ = (a ρ).bind fun rs ρ1 => parR2 i j ρ1 rs := by
  show (a ρ).bind _ = _
  congr 1
  funext rs ρ1
  match rs with
  | [] => rfl
  | [_] => rfl
  | [r, s] =>
    show (match putR ρ1 i r with
    | some ρ2 => match putR ρ2 j s with
      | some ρ3 => Ro.ok Fl.nx ρ3
      | none => .bad
    | none => .bad) = (match (putR ρ1 i r).bind fun ρ2 => putR ρ2 j s with
    | some ρ3 => .ok .nx ρ3
    | none => .bad)
    cases putR ρ1 i r with
    | none => rfl
    | some ρ2 => rfl
  | _ :: _ :: _ :: _ => rfl
theorem parR2_ {i j : Nat} {ρ ρ' : Ev} {r s : RV} (h : ((putR ρ i r).bind fun ρ2 => putR ρ2 j s) = some ρ') : parR2 i j ρ [r, s] = .ok .nx ρ' := by
  show (match (putR ρ i r).bind fun ρ2 => putR ρ2 j s with
    | some ρ3 => Ro.ok Fl.nx ρ3
    | none => .bad) = _
  rw [h]
def parR3 (i j l : Nat) (ρ : Ev) : List RV → Ro Fl
  | [q, r, s] => match (putR ρ i q).bind fun ρ2 => (putR ρ2 j r).bind fun ρ3 => putR ρ3 l s with
    | some ρ3 => .ok .nx ρ3
    | none => .bad
  | _ => .bad
theorem sPar3_ {i j l : Nat} {a : EvA} {ρ : Ev} : sPar3 i j l a ρ = (a ρ).bind fun rs ρ1 => parR3 i j l ρ1 rs := by
  show (a ρ).bind _ = _
  congr 1
  funext rs ρ1
  match rs with
  | [] => rfl
  | [_] => rfl
  | [_, _] => rfl
  | [q, r, s] =>
    show (match putR ρ1 i q with
    | some ρ2 => match putR ρ2 j r with
      | some ρ3 => match putR ρ3 l s with
        | some ρ4 => Ro.ok Fl.nx ρ4
        | none => .bad
      | none => .bad
    | none => .bad) = (match (putR ρ1 i q).bind fun ρ2 => (putR ρ2 j r).bind fun ρ3 => putR ρ3 l s with
    | some ρ3 => .ok .nx ρ3
    | none => .bad)
    cases h1 : putR ρ1 i q with
    | none => rfl
    | some ρ2 =>
      simp only [Option.bind_some]
      cases h2 : putR ρ2 j r with
      | none => rfl
      | some ρ3 => simp only [Option.bind_some]
  | _ :: _ :: _ :: _ :: _ => rfl
theorem parR3_ {i j l : Nat} {ρ ρ' : Ev} {q r s : RV} (h : ((putR ρ i q).bind fun ρ2 => (putR ρ2 j r).bind fun ρ3 => putR ρ3 l s) = some ρ') : parR3 i j l ρ [q, r, s] = .ok .nx ρ' := by
  show (match (putR ρ i q).bind fun ρ2 => (putR ρ2 j r).bind fun ρ3 => putR ρ3 l s with
    | some ρ3 => Ro.ok Fl.nx ρ3
    | none => .bad) = _
  rw [h]
def slI : Sl → Option Int
  | .dat (.int m) .frz => some m
  | _ => none
def augR (i : Nat) (f : Int → Int → Int) (m : Int) (ρ : Ev) : Option PyData → Ro Fl
  | some (.int n) => if settable (look ρ i) = true then .ok .nx (put ρ i (.dat (.int (f m n)) .frz)) else .bad
  | _ => .bad
def augS (i : Nat) (f : Int → Int → Int) (a : EvE) (ρ : Ev) : Option Int → Ro Fl
  | some m => (a ρ).bind fun r ρ1 => augR i f m ρ1 (res ρ1 r)
  | none => .bad
theorem sAug_ {i : Nat} {f : Int → Int → Int} {a : EvE} {ρ : Ev} : sAug i f a ρ = augS i f a ρ (slI (look ρ i)) := by
  show (match look ρ i with
    | .dat (.int m) .frz => (a ρ).bind fun r ρ1 => match res ρ1 r with
      | some (.int n) => if settable (look ρ1 i) = true then Ro.ok Fl.nx (put ρ1 i (.dat (.int (f m n)) .frz)) else .bad
      | _ => .bad
    | _ => .bad) = _
  cases look ρ i with
  | non => rfl
  | scr _ => rfl
  | dat d k => cases d <;> cases k <;> rfl
theorem slI_ {m : Int} : slI (.dat (.int m) .frz) = some m := rfl
theorem augS_ {i : Nat} {f : Int → Int → Int} {m : Int} {a : EvE} {ρ : Ev} : augS i f a ρ (some m) = (a ρ).bind fun r ρ1 => augR i f m ρ1 (res ρ1 r) := rfl
theorem augR_ {i : Nat} {f : Int → Int → Int} {m n : Int} {ρ : Ev} : augR i f m ρ (some (.int n)) = if settable (look ρ i) = true then .ok .nx (put ρ i (.dat (.int (f m n)) .frz)) else .bad := rfl
/-! lists that are written -/
def slW : Sl → Option (List PyData × Kd)
  | .dat (.list ds) .own => some (ds, .own)
  | .dat (.list ds) .par => some (ds, .par)
  | _ => none
theorem wr_ {ρ : Ev} {j : Nat} : wr ρ j = slW (look ρ j) := rfl
theorem slW_own {ds : List PyData} : slW (.dat (.list ds) .own) = some (ds, .own) := rfl
theorem slW_par {ds : List PyData} : slW (.dat (.list ds) .par) = some (ds, .par) := rfl
def ixE (j : Nat) (d : PyData) (ρ : Ev) : Option PyData → Option (List PyData × Kd) → Ro Fl
  | some (.int n), some (ds, kd) => match ixN ds.length n with
    | some m => .ok .nx (put ρ j (.dat (.list (ds.set m d)) kd))
    | none => .bad
  | _, _ => .bad
def ixS (j : Nat) (ie : EvE) (d : PyData) (ρ : Ev) : Option (List PyData × Kd) → Ro Fl
  | none => .bad
  | some _ => (ie ρ).bind fun k ρ3 => ixE j d ρ3 (res ρ3 k) (wr ρ3 j)
theorem sSetIx_ {j : Nat} {ie e : EvE} {ρ : Ev} : sSetIx j ie e ρ = (e ρ).bind fun r ρ1 => (escR ρ1 r).bind fun d ρ2 => ixS j ie d ρ2 (wr ρ2 j) := by
  show (e ρ).bind _ = _
  congr 1
theorem ixS_ {j : Nat} {ie : EvE} {d : PyData} {ρ : Ev} {p : List PyData × Kd} : ixS j ie d ρ (some p) = (ie ρ).bind fun k ρ3 => ixE j d ρ3 (res ρ3 k) (wr ρ3 j) := rfl
theorem ixE_ {j n : Nat} {d : PyData} {ρ : Ev} {ds : List PyData} {kd : Kd} (h : n < ds.length) : ixE j d ρ (some (.int (n : Int))) (some (ds, kd)) = .ok .nx (put ρ j (.dat (.list (ds.set n d)) kd)) := by
  unfold ixE
  have e : ixN ds.length (n : Int) = some n := by
    unfold ixN
    rw [if_pos (by omega), if_pos (by omega)]; simp
  simp only [e]
def mtR (g : GM) (j : Nat) (ρ : Ev) : Option (List PyData) → Option (List PyData × Kd) → Ro RV
  | some es, some (ds, k) => match g ds es with
    | some (ds', c) => .ok (.shr c) (put ρ j (.dat (.list ds') k))
    | none => .bad
  | _, _ => .bad
def mtS (g : GM) (j : Nat) (a : EvA) (ρ : Ev) : Option (List PyData × Kd) → Ro RV
  | none => .bad
  | some _ => (a ρ).bind fun rs ρ1 => mtR g j ρ1 (shrs rs) (wr ρ1 j)
theorem eMut_ {j : Nat} {g : GM} {a : EvA} {ρ : Ev} : eMut j g a ρ = mtS g j a ρ (wr ρ j) := by
  show (match wr ρ j with
    | none => Ro.bad
    | some _ => (a ρ).bind fun rs ρ1 => match shrs rs, wr ρ1 j with
      | some es, some (ds, k) => match g ds es with
        | some (ds', c) => Ro.ok (RV.shr c) (put ρ1 j (.dat (.list ds') k))
        | none => .bad
      | _, _ => .bad) = _
  cases wr ρ j <;> rfl
theorem mtS_ {g : GM} {j : Nat} {a : EvA} {ρ : Ev} {p : List PyData × Kd} : mtS g j a ρ (some p) = (a ρ).bind fun rs ρ1 => mtR g j ρ1 (shrs rs) (wr ρ1 j) := rfl
theorem mtR_ {g : GM} {j : Nat} {ρ : Ev} {es ds ds' : List PyData} {k : Kd} {c : PyData} (h : g ds es = some (ds', c)) : mtR g j ρ (some es) (some (ds, k)) = .ok (.shr c) (put ρ j (.dat (.list ds') k)) := by
  unfold mtR; simp only [h]
theorem gAppend_ {ds : List PyData} {e : PyData} (h : ds.length < 16777216) : gAppend ds [e] = some (ds ++ [e], .none) := if_pos h
/-! operations -/
theorem gAdd_int {i j : Int} : gAdd (.int i) (.int j) = .val (.int (i + j)) := rfl
theorem gAdd_tuple {a b : List PyData} (h : a.length + b.length ≤ 16777216) : gAdd (.tuple a) (.tuple b) = .val (.tuple (a ++ b)) := if_pos h
theorem gAdd_list {a b : List PyData} (h : a.length + b.length ≤ 16777216) : gAdd (.list a) (.list b) = .new (a ++ b) := if_pos h
theorem gSub_ {i j : Int} : gSub (.int i) (.int j) = .val (.int (i - j)) := rfl
theorem gMul_int {i j : Int} (h : bits i + bits j < 1000000) : gMul (.int i) (.int j) = .val (.int (i * j)) := if_pos h
theorem gMod_ {i j : Int} (h : 0 < j) : gMod (.int i) (.int j) = .val (.int (i % j)) := if_pos h
theorem gFdiv_ {i j : Int} (h : 0 < j) (h2 : bits j < 9000) : gFdiv (.int i) (.int j) = .val (.int (i / j)) := if_pos ⟨h, h2⟩
theorem gPow_ {i : Int} {n : Nat} (h2 : (bits i + 1) * n ≤ 100000000) : gPow (.int i) (.int (n : Int)) = .val (.int (i ^ n)) := by
  unfold gPow
  show (if 0 ≤ (n : Int) ∧ (bits i + 1) * (n : Int).toNat ≤ 100000000 then PR.val (PyData.int (i ^ (n : Int).toNat)) else PR.bad) = _
  rw [Int.toNat_natCast, if_pos ⟨Int.natCast_nonneg n, h2⟩]
theorem gNeg_ {i : Int} : gNeg (.int i) = .val (.int (-i)) := rfl
theorem gCmp_ {p : Int → Int → Bool} {i j : Int} : gCmp p (.int i) (.int j) = .val (.bool (p i j)) := rfl
theorem gLen_list {ds : List PyData} : gLen [.list ds] = .val (.int ds.length) := rfl
theorem gLen_tuple {ds : List PyData} : gLen [.tuple ds] = .val (.int ds.length) := rfl
theorem gAbs_ {i : Int} : gAbs [.int i] = .val (.int (if i < 0 then -i else i)) := rfl
theorem gMax2_ {i j : Int} : gMax2 [.int i, .int j] = .val (.int (if j > i then j else i)) := rfl
theorem gMin2_ {i j : Int} : gMin2 [.int i, .int j] = .val (.int (if j < i then j else i)) := rfl
theorem gInt_int {i : Int} : gInt [.int i] = .val (.int i) := rfl
theorem gInt_bool {b : Bool} : gInt [.bool b] = .val (.int (if b then 1 else 0)) := rfl
theorem gTuple_list {ds : List PyData} : gTuple [.list ds] = .val (.tuple ds) := rfl
theorem gTuple_tuple {ds : List PyData} : gTuple [.tuple ds] = .val (.tuple ds) := rfl
theorem gList_list {ds : List PyData} : gList [.list ds] = .new ds := rfl
theorem gList_tuple {ds : List PyData} : gList [.tuple ds] = .new ds := rfl
theorem atI_n {ds : List PyData} {n : Nat} {d : PyData} (h : ds[n]? = some d) : atI ds (n : Int) = some d := atI_nat h
theorem gIx_list {ds : List PyData} {i : Int} {d : PyData} (h : atI ds i = some d) : gIx (.list ds) (.int i) = .val d := by
  show (match atI ds i with
    | some d => PR.val d
    | none => PR.bad) = _
  rw [h]
theorem gIx_tuple {ds : List PyData} {i : Int} {d : PyData} (h : atI ds i = some d) : gIx (.tuple ds) (.int i) = .val d := by
  show (match atI ds i with
    | some d => PR.val d
    | none => PR.bad) = _
  rw [h]
def itR : Option PyData → PR
  | some d => .val d
  | none => .bad
theorem gIx_l {ds : List PyData} {i : Int} : gIx (.list ds) (.int i) = itR (atI ds i) := by
  show (match atI ds i with
    | some d => PR.val d
    | none => PR.bad) = _
  cases atI ds i <;> rfl
theorem gIx_t {ds : List PyData} {i : Int} : gIx (.tuple ds) (.int i) = itR (atI ds i) := by
  show (match atI ds i with
    | some d => PR.val d
    | none => PR.bad) = _
  cases atI ds i <;> rfl
theorem itR_ {d : PyData} : itR (some d) = .val d := rfl
theorem atI_0 {α : Type} {a : α} {l : List α} : atI (a :: l) 0 = some a := atI_nat (j := 0) rfl
theorem atI_1 {α : Type} {a b : α} {l : List α} : atI (a :: b :: l) 1 = some b := atI_nat (j := 1) rfl
theorem atI_2 {α : Type} {a b c : α} {l : List α} : atI (a :: b :: c :: l) 2 = some c := atI_nat (j := 2) rfl
theorem atI_3 {α : Type} {a b c d : α} {l : List α} : atI (a :: b :: c :: d :: l) 3 = some d := atI_nat (j := 3) rfl
/-! calls -/
def mapO (np : Nat) : Ro Fl → Ro RV
  | .ok .nx ρ => .ok (.shr .none) (outs np ρ)
  | .ok (.ret r) ρ => .ok r (outs np ρ)
  | _ => .bad
theorem defF0_ {np n : Nat} {body : EvS} {args : Ev} (h : args.length = np) : defF0 np n body args = mapO np (body (args ++ List.replicate (n - np) .non)) := by
  unfold defF0 defF
  rw [if_pos h]
  cases body (args ++ List.replicate (n - np) .non) with
  | bad => rfl
  | exc _ _ => rfl
  | ok f ρ => cases f <;> rfl
theorem mapO_nx {np : Nat} {ρ : Ev} : mapO np (.ok .nx ρ) = .ok (.shr .none) (outs np ρ) := rfl
theorem mapO_ret {np : Nat} {ρ : Ev} {r : RV} : mapO np (.ok (.ret r) ρ) = .ok r (outs np ρ) := rfl
theorem outs_0 {ρ : Ev} : outs 0 ρ = [] := rfl
theorem outs_s {n : Nat} {s : Sl} {r : Ev} : outs (n + 1) (s :: r) = outS s :: outs n r := rfl
theorem outS_par {d : PyData} : outS (.dat d .par) = .dat d .par := rfl
theorem outS_frz {d : PyData} : outS (.dat d .frz) = .non := rfl
theorem outS_own {d : PyData} : outS (.dat d .own) = .non := rfl
theorem outS_scr {ns : Th} : outS (.scr ns) = .non := rfl
theorem outS_non : outS .non = .non := rfl
theorem eC__ {np : Nat} {F : FnD} {a : EvA} {ρ : Ev} : eC_ np F a ρ = (a ρ).bind (callR np F) := rfl
theorem eCk_ {np : Nat} {pi : List Nat} {F : FnD} {a : EvA} {ρ : Ev} : eCk np pi F a ρ = (a ρ).bind fun rs ρ1 => if rs.length = np then callR np F (permL rs pi) ρ1 else .bad := rfl
/-- a call whose arguments are data -/
def sargs : List RV → Option Ev
  | [] => some []
  | .shr d :: r => (sargs r).map (.dat d .frz :: ·)
  | .tmp d :: r => (sargs r).map (.dat d .frz :: ·)
  | .var _ :: _ => none
theorem sargs_map {ρ : Ev} : ∀ {rs : List RV} {as : Ev}, sargs rs = some as → rs.map (argOf ρ) = as ∧ refIx ρ rs = [] ∧ as.length = rs.length
  | [], as, h => by cases h; exact ⟨rfl, rfl, rfl⟩
  | .shr d :: r, as, h => by
    unfold sargs at h
    cases q : sargs r with
    | none => rw [q] at h; cases h
    | some bs =>
      rw [q] at h; cases h
      obtain ⟨h1, h2, h3⟩ := sargs_map q
      exact ⟨by rw [List.map_cons, h1]; rfl, h2, by rw [List.length_cons, List.length_cons, h3]⟩
  | .tmp d :: r, as, h => by
    unfold sargs at h
    cases q : sargs r with
    | none => rw [q] at h; cases h
    | some bs =>
      rw [q] at h; cases h
      obtain ⟨h1, h2, h3⟩ := sargs_map q
      exact ⟨by rw [List.map_cons, h1]; rfl, h2, by rw [List.length_cons, List.length_cons, h3]⟩
  | .var _ :: _, as, h => by unfold sargs at h; cases h
theorem backs_s {ρ : Ev} : ∀ {rs : List RV} {os : Ev}, refIx ρ rs = [] → os.length = rs.length → backs ρ rs os = some ρ
  | [], os, _, _ => by cases os <;> rfl
  | .shr d :: r, o :: os, h, l => backs_s (rs := r) (os := os) h (by simpa using l)
  | .tmp d :: r, o :: os, h, l => backs_s (rs := r) (os := os) h (by simpa using l)
  | .var i :: r, o :: os, h, l => by
    rw [refIx_var] at h
    by_cases e : refd (look ρ i) = true
    · rw [if_pos e] at h; cases h
    · rw [if_neg e] at h
      unfold backs
      rw [if_neg e]
      exact backs_s (rs := r) (os := os) h (by simpa using l)
  | _ :: _, [], _, l => by simp at l
theorem callR_s {np : Nat} {F : FnD} {rs : List RV} {as os : Ev} {ρ : Ev} {r : RV} (h : sargs rs = some as) (hn : rs.length = np) (hF : F as = .ok r os) (ho : os.length = np) (hr : ∀ i, r ≠ .var i) : callR np F rs ρ = .ok r ρ := by
  obtain ⟨h1, h2, h3⟩ := sargs_map (ρ := ρ) h
  unfold callR
  rw [if_pos hn, h1, h2, hF]
  have hb := backs_s (ρ := ρ) (rs := rs) (os := os) h2 (ho.trans hn.symm)
  cases r with
  | var i => exact absurd rfl (hr i)
  | shr d => simp only [nodupB, if_true, hb]
  | tmp d => simp only [nodupB, if_true, hb]
/-! bounds in bits -/
def Bd (k : Nat) (i : Int) : Prop := i.natAbs < 2 ^ k
theorem Bd.bits {i : Int} {k : Nat} (h : Bd k i) : bits i ≤ k := by
  unfold DL.bits
  by_cases e : i.natAbs = 0
  · rw [e]; exact Nat.zero_le _
  · exact Nat.le_of_lt ((Nat.log2_lt e).mpr h)
theorem Bd.self (i : Int) : Bd (DL.bits i + 1) i := by
  unfold Bd DL.bits
  by_cases e : i.natAbs = 0
  · rw [e]; exact Nat.two_pow_pos _
  · exact (Nat.log2_lt e).mp (Nat.lt_succ_self _)
theorem Bd.mono {i : Int} {k l : Nat} (h : Bd k i) (hl : k ≤ l) : Bd l i := Nat.lt_of_lt_of_le h (Nat.pow_le_pow_right (by decide) hl)
theorem Bd.mul {i j : Int} {k l : Nat} (h : Bd k i) (g : Bd l j) : Bd (k + l) (i * j) := by
  unfold Bd at *
  rw [Int.natAbs_mul, Nat.pow_add]
  exact Nat.mul_lt_mul'' h g
theorem Bd.add {i j : Int} {k l : Nat} (h : Bd k i) (g : Bd l j) : Bd (k + l + 1) (i + j) := by
  have h1 : i.natAbs < 2 ^ (k + l) := Nat.lt_of_lt_of_le h (Nat.pow_le_pow_right (by decide) (Nat.le_add_right _ _))
  have h2 : j.natAbs < 2 ^ (k + l) := Nat.lt_of_lt_of_le g (Nat.pow_le_pow_right (by decide) (Nat.le_add_left _ _))
  have h3 := Int.natAbs_add_le i j
  unfold Bd
  rw [Nat.pow_succ]
  omega
theorem Bd.sub {i j : Int} {k l : Nat} (h : Bd k i) (g : Bd l j) : Bd (k + l + 1) (i - j) := by
  have h1 : i.natAbs < 2 ^ (k + l) := Nat.lt_of_lt_of_le h (Nat.pow_le_pow_right (by decide) (Nat.le_add_right _ _))
  have h2 : j.natAbs < 2 ^ (k + l) := Nat.lt_of_lt_of_le g (Nat.pow_le_pow_right (by decide) (Nat.le_add_left _ _))
  have h3 := Int.natAbs_sub_le i j
  unfold Bd
  rw [Nat.pow_succ]
  omega
theorem Bd.mod {i j : Int} {l : Nat} (h : 0 < j) (g : Bd l j) : Bd l (i % j) := by
  unfold Bd at *
  have h1 := Int.emod_nonneg i (show j ≠ 0 by omega)
  have h2 := Int.emod_lt_of_pos i h
  omega
theorem Bd.div {i j : Int} {k : Nat} (h : 0 < j) (g : Bd k i) : Bd k (i / j) := by
  unfold Bd at *
  refine Nat.lt_of_le_of_lt ?_ g
  exact Int.natAbs_ediv_le_natAbs i j
theorem Bd.pow {i : Int} {k : Nat} (g : Bd k i) : ∀ n : Nat, Bd (k * n + 1) (i ^ n)
  | 0 => by unfold Bd; simp
  | n + 1 => by
    have := (Bd.pow g n).mul g
    rw [Int.pow_succ]
    exact this.mono (by rw [Nat.mul_add]; omega)
theorem Bd.of {i : Int} {k : Nat} (h0 : 0 ≤ i) (h : i < ((2 ^ k : Nat) : Int)) : Bd k i := by unfold Bd; omega
theorem bits_mul {i j : Int} {k l : Nat} (h : Bd k i) (g : Bd l j) (e : k + l < 1000000) : bits i + bits j < 1000000 := by
  have := h.bits
  have := g.bits
  omega
theorem bits_lt {j : Int} {l : Nat} (g : Bd l j) (e : l < 9000) : bits j < 9000 := Nat.lt_of_le_of_lt g.bits e
theorem bits_pow {i : Int} {k n : Nat} (g : Bd k i) (e : (k + 1) * n ≤ 100000000) : (bits i + 1) * n ≤ 100000000 := Nat.le_trans (Nat.mul_le_mul_right _ (Nat.succ_le_succ g.bits)) e
end DL

namespace DL
open PySem PySem.Spec PyProof.Rows L2
/-! ### what a computation must bring: weakest preconditions -/
theorem lk0 {s0 : Sl} {r : Ev} : look (s0 :: r) 0 = s0 := rfl
theorem pt0 {s0 t : Sl} {r : Ev} : put (s0 :: r) 0 t = t :: r := rfl
theorem lk1 {s0 s1 : Sl} {r : Ev} : look (s0 :: s1 :: r) 1 = s1 := rfl
theorem pt1 {s0 s1 t : Sl} {r : Ev} : put (s0 :: s1 :: r) 1 t = s0 :: t :: r := rfl
theorem lk2 {s0 s1 s2 : Sl} {r : Ev} : look (s0 :: s1 :: s2 :: r) 2 = s2 := rfl
theorem pt2 {s0 s1 s2 t : Sl} {r : Ev} : put (s0 :: s1 :: s2 :: r) 2 t = s0 :: s1 :: t :: r := rfl
theorem lk3 {s0 s1 s2 s3 : Sl} {r : Ev} : look (s0 :: s1 :: s2 :: s3 :: r) 3 = s3 := rfl
theorem pt3 {s0 s1 s2 s3 t : Sl} {r : Ev} : put (s0 :: s1 :: s2 :: s3 :: r) 3 t = s0 :: s1 :: s2 :: t :: r := rfl
theorem lk4 {s0 s1 s2 s3 s4 : Sl} {r : Ev} : look (s0 :: s1 :: s2 :: s3 :: s4 :: r) 4 = s4 := rfl
theorem pt4 {s0 s1 s2 s3 s4 t : Sl} {r : Ev} : put (s0 :: s1 :: s2 :: s3 :: s4 :: r) 4 t = s0 :: s1 :: s2 :: s3 :: t :: r := rfl
theorem lk5 {s0 s1 s2 s3 s4 s5 : Sl} {r : Ev} : look (s0 :: s1 :: s2 :: s3 :: s4 :: s5 :: r) 5 = s5 := rfl
theorem pt5 {s0 s1 s2 s3 s4 s5 t : Sl} {r : Ev} : put (s0 :: s1 :: s2 :: s3 :: s4 :: s5 :: r) 5 t = s0 :: s1 :: s2 :: s3 :: s4 :: t :: r := rfl
theorem lk6 {s0 s1 s2 s3 s4 s5 s6 : Sl} {r : Ev} : look (s0 :: s1 :: s2 :: s3 :: s4 :: s5 :: s6 :: r) 6 = s6 := rfl
theorem pt6 {s0 s1 s2 s3 s4 s5 s6 t : Sl} {r : Ev} : put (s0 :: s1 :: s2 :: s3 :: s4 :: s5 :: s6 :: r) 6 t = s0 :: s1 :: s2 :: s3 :: s4 :: s5 :: t :: r := rfl
theorem lk7 {s0 s1 s2 s3 s4 s5 s6 s7 : Sl} {r : Ev} : look (s0 :: s1 :: s2 :: s3 :: s4 :: s5 :: s6 :: s7 :: r) 7 = s7 := rfl
theorem pt7 {s0 s1 s2 s3 s4 s5 s6 s7 t : Sl} {r : Ev} : put (s0 :: s1 :: s2 :: s3 :: s4 :: s5 :: s6 :: s7 :: r) 7 t = s0 :: s1 :: s2 :: s3 :: s4 :: s5 :: s6 :: t :: r := rfl
theorem lk8 {s0 s1 s2 s3 s4 s5 s6 s7 s8 : Sl} {r : Ev} : look (s0 :: s1 :: s2 :: s3 :: s4 :: s5 :: s6 :: s7 :: s8 :: r) 8 = s8 := rfl
theorem pt8 {s0 s1 s2 s3 s4 s5 s6 s7 s8 t : Sl} {r : Ev} : put (s0 :: s1 :: s2 :: s3 :: s4 :: s5 :: s6 :: s7 :: s8 :: r) 8 t = s0 :: s1 :: s2 :: s3 :: s4 :: s5 :: s6 :: s7 :: t :: r := rfl
theorem lk9 {s0 s1 s2 s3 s4 s5 s6 s7 s8 s9 : Sl} {r : Ev} : look (s0 :: s1 :: s2 :: s3 :: s4 :: s5 :: s6 :: s7 :: s8 :: s9 :: r) 9 = s9 := rfl
theorem pt9 {s0 s1 s2 s3 s4 s5 s6 s7 s8 s9 t : Sl} {r : Ev} : put (s0 :: s1 :: s2 :: s3 :: s4 :: s5 :: s6 :: s7 :: s8 :: s9 :: r) 9 t = s0 :: s1 :: s2 :: s3 :: s4 :: s5 :: s6 :: s7 :: s8 :: t :: r := rfl
theorem lk10 {s0 s1 s2 s3 s4 s5 s6 s7 s8 s9 s10 : Sl} {r : Ev} : look (s0 :: s1 :: s2 :: s3 :: s4 :: s5 :: s6 :: s7 :: s8 :: s9 :: s10 :: r) 10 = s10 := rfl
theorem pt10 {s0 s1 s2 s3 s4 s5 s6 s7 s8 s9 s10 t : Sl} {r : Ev} : put (s0 :: s1 :: s2 :: s3 :: s4 :: s5 :: s6 :: s7 :: s8 :: s9 :: s10 :: r) 10 t = s0 :: s1 :: s2 :: s3 :: s4 :: s5 :: s6 :: s7 :: s8 :: s9 :: t :: r := rfl
theorem lk11 {s0 s1 s2 s3 s4 s5 s6 s7 s8 s9 s10 s11 : Sl} {r : Ev} : look (s0 :: s1 :: s2 :: s3 :: s4 :: s5 :: s6 :: s7 :: s8 :: s9 :: s10 :: s11 :: r) 11 = s11 := rfl
theorem pt11 {s0 s1 s2 s3 s4 s5 s6 s7 s8 s9 s10 s11 t : Sl} {r : Ev} : put (s0 :: s1 :: s2 :: s3 :: s4 :: s5 :: s6 :: s7 :: s8 :: s9 :: s10 :: s11 :: r) 11 t = s0 :: s1 :: s2 :: s3 :: s4 :: s5 :: s6 :: s7 :: s8 :: s9 :: s10 :: t :: r := rfl
theorem lk12 {s0 s1 s2 s3 s4 s5 s6 s7 s8 s9 s10 s11 s12 : Sl} {r : Ev} : look (s0 :: s1 :: s2 :: s3 :: s4 :: s5 :: s6 :: s7 :: s8 :: s9 :: s10 :: s11 :: s12 :: r) 12 = s12 := rfl
theorem pt12 {s0 s1 s2 s3 s4 s5 s6 s7 s8 s9 s10 s11 s12 t : Sl} {r : Ev} : put (s0 :: s1 :: s2 :: s3 :: s4 :: s5 :: s6 :: s7 :: s8 :: s9 :: s10 :: s11 :: s12 :: r) 12 t = s0 :: s1 :: s2 :: s3 :: s4 :: s5 :: s6 :: s7 :: s8 :: s9 :: s10 :: s11 :: t :: r := rfl
theorem lk13 {s0 s1 s2 s3 s4 s5 s6 s7 s8 s9 s10 s11 s12 s13 : Sl} {r : Ev} : look (s0 :: s1 :: s2 :: s3 :: s4 :: s5 :: s6 :: s7 :: s8 :: s9 :: s10 :: s11 :: s12 :: s13 :: r) 13 = s13 := rfl
theorem pt13 {s0 s1 s2 s3 s4 s5 s6 s7 s8 s9 s10 s11 s12 s13 t : Sl} {r : Ev} : put (s0 :: s1 :: s2 :: s3 :: s4 :: s5 :: s6 :: s7 :: s8 :: s9 :: s10 :: s11 :: s12 :: s13 :: r) 13 t = s0 :: s1 :: s2 :: s3 :: s4 :: s5 :: s6 :: s7 :: s8 :: s9 :: s10 :: s11 :: s12 :: t :: r := rfl
theorem lk14 {s0 s1 s2 s3 s4 s5 s6 s7 s8 s9 s10 s11 s12 s13 s14 : Sl} {r : Ev} : look (s0 :: s1 :: s2 :: s3 :: s4 :: s5 :: s6 :: s7 :: s8 :: s9 :: s10 :: s11 :: s12 :: s13 :: s14 :: r) 14 = s14 := rfl
theorem pt14 {s0 s1 s2 s3 s4 s5 s6 s7 s8 s9 s10 s11 s12 s13 s14 t : Sl} {r : Ev} : put (s0 :: s1 :: s2 :: s3 :: s4 :: s5 :: s6 :: s7 :: s8 :: s9 :: s10 :: s11 :: s12 :: s13 :: s14 :: r) 14 t = s0 :: s1 :: s2 :: s3 :: s4 :: s5 :: s6 :: s7 :: s8 :: s9 :: s10 :: s11 :: s12 :: s13 :: t :: r := rfl
theorem lk15 {s0 s1 s2 s3 s4 s5 s6 s7 s8 s9 s10 s11 s12 s13 s14 s15 : Sl} {r : Ev} : look (s0 :: s1 :: s2 :: s3 :: s4 :: s5 :: s6 :: s7 :: s8 :: s9 :: s10 :: s11 :: s12 :: s13 :: s14 :: s15 :: r) 15 = s15 := rfl
theorem pt15 {s0 s1 s2 s3 s4 s5 s6 s7 s8 s9 s10 s11 s12 s13 s14 s15 t : Sl} {r : Ev} : put (s0 :: s1 :: s2 :: s3 :: s4 :: s5 :: s6 :: s7 :: s8 :: s9 :: s10 :: s11 :: s12 :: s13 :: s14 :: s15 :: r) 15 t = s0 :: s1 :: s2 :: s3 :: s4 :: s5 :: s6 :: s7 :: s8 :: s9 :: s10 :: s11 :: s12 :: s13 :: s14 :: t :: r := rfl
theorem lk16 {s0 s1 s2 s3 s4 s5 s6 s7 s8 s9 s10 s11 s12 s13 s14 s15 s16 : Sl} {r : Ev} : look (s0 :: s1 :: s2 :: s3 :: s4 :: s5 :: s6 :: s7 :: s8 :: s9 :: s10 :: s11 :: s12 :: s13 :: s14 :: s15 :: s16 :: r) 16 = s16 := rfl
theorem pt16 {s0 s1 s2 s3 s4 s5 s6 s7 s8 s9 s10 s11 s12 s13 s14 s15 s16 t : Sl} {r : Ev} : put (s0 :: s1 :: s2 :: s3 :: s4 :: s5 :: s6 :: s7 :: s8 :: s9 :: s10 :: s11 :: s12 :: s13 :: s14 :: s15 :: s16 :: r) 16 t = s0 :: s1 :: s2 :: s3 :: s4 :: s5 :: s6 :: s7 :: s8 :: s9 :: s10 :: s11 :: s12 :: s13 :: s14 :: s15 :: t :: r := rfl
theorem lk17 {s0 s1 s2 s3 s4 s5 s6 s7 s8 s9 s10 s11 s12 s13 s14 s15 s16 s17 : Sl} {r : Ev} : look (s0 :: s1 :: s2 :: s3 :: s4 :: s5 :: s6 :: s7 :: s8 :: s9 :: s10 :: s11 :: s12 :: s13 :: s14 :: s15 :: s16 :: s17 :: r) 17 = s17 := rfl
theorem pt17 {s0 s1 s2 s3 s4 s5 s6 s7 s8 s9 s10 s11 s12 s13 s14 s15 s16 s17 t : Sl} {r : Ev} : put (s0 :: s1 :: s2 :: s3 :: s4 :: s5 :: s6 :: s7 :: s8 :: s9 :: s10 :: s11 :: s12 :: s13 :: s14 :: s15 :: s16 :: s17 :: r) 17 t = s0 :: s1 :: s2 :: s3 :: s4 :: s5 :: s6 :: s7 :: s8 :: s9 :: s10 :: s11 :: s12 :: s13 :: s14 :: s15 :: s16 :: t :: r := rfl
theorem lk18 {s0 s1 s2 s3 s4 s5 s6 s7 s8 s9 s10 s11 s12 s13 s14 s15 s16 s17 s18 : Sl} {r : Ev} : look (s0 :: s1 :: s2 :: s3 :: s4 :: s5 :: s6 :: s7 :: s8 :: s9 :: s10 :: s11 :: s12 :: s13 :: s14 :: s15 :: s16 :: s17 :: s18 :: r) 18 = s18 := rfl
theorem pt18 {s0 s1 s2 s3 s4 s5 s6 s7 s8 s9 s10 s11 s12 s13 s14 s15 s16 s17 s18 t : Sl} {r : Ev} : put (s0 :: s1 :: s2 :: s3 :: s4 :: s5 :: s6 :: s7 :: s8 :: s9 :: s10 :: s11 :: s12 :: s13 :: s14 :: s15 :: s16 :: s17 :: s18 :: r) 18 t = s0 :: s1 :: s2 :: s3 :: s4 :: s5 :: s6 :: s7 :: s8 :: s9 :: s10 :: s11 :: s12 :: s13 :: s14 :: s15 :: s16 :: s17 :: t :: r := rfl
theorem lk19 {s0 s1 s2 s3 s4 s5 s6 s7 s8 s9 s10 s11 s12 s13 s14 s15 s16 s17 s18 s19 : Sl} {r : Ev} : look (s0 :: s1 :: s2 :: s3 :: s4 :: s5 :: s6 :: s7 :: s8 :: s9 :: s10 :: s11 :: s12 :: s13 :: s14 :: s15 :: s16 :: s17 :: s18 :: s19 :: r) 19 = s19 := rfl
theorem pt19 {s0 s1 s2 s3 s4 s5 s6 s7 s8 s9 s10 s11 s12 s13 s14 s15 s16 s17 s18 s19 t : Sl} {r : Ev} : put (s0 :: s1 :: s2 :: s3 :: s4 :: s5 :: s6 :: s7 :: s8 :: s9 :: s10 :: s11 :: s12 :: s13 :: s14 :: s15 :: s16 :: s17 :: s18 :: s19 :: r) 19 t = s0 :: s1 :: s2 :: s3 :: s4 :: s5 :: s6 :: s7 :: s8 :: s9 :: s10 :: s11 :: s12 :: s13 :: s14 :: s15 :: s16 :: s17 :: s18 :: t :: r := rfl
theorem lk20 {s0 s1 s2 s3 s4 s5 s6 s7 s8 s9 s10 s11 s12 s13 s14 s15 s16 s17 s18 s19 s20 : Sl} {r : Ev} : look (s0 :: s1 :: s2 :: s3 :: s4 :: s5 :: s6 :: s7 :: s8 :: s9 :: s10 :: s11 :: s12 :: s13 :: s14 :: s15 :: s16 :: s17 :: s18 :: s19 :: s20 :: r) 20 = s20 := rfl
theorem pt20 {s0 s1 s2 s3 s4 s5 s6 s7 s8 s9 s10 s11 s12 s13 s14 s15 s16 s17 s18 s19 s20 t : Sl} {r : Ev} : put (s0 :: s1 :: s2 :: s3 :: s4 :: s5 :: s6 :: s7 :: s8 :: s9 :: s10 :: s11 :: s12 :: s13 :: s14 :: s15 :: s16 :: s17 :: s18 :: s19 :: s20 :: r) 20 t = s0 :: s1 :: s2 :: s3 :: s4 :: s5 :: s6 :: s7 :: s8 :: s9 :: s10 :: s11 :: s12 :: s13 :: s14 :: s15 :: s16 :: s17 :: s18 :: s19 :: t :: r := rfl
theorem lk21 {s0 s1 s2 s3 s4 s5 s6 s7 s8 s9 s10 s11 s12 s13 s14 s15 s16 s17 s18 s19 s20 s21 : Sl} {r : Ev} : look (s0 :: s1 :: s2 :: s3 :: s4 :: s5 :: s6 :: s7 :: s8 :: s9 :: s10 :: s11 :: s12 :: s13 :: s14 :: s15 :: s16 :: s17 :: s18 :: s19 :: s20 :: s21 :: r) 21 = s21 := rfl
theorem pt21 {s0 s1 s2 s3 s4 s5 s6 s7 s8 s9 s10 s11 s12 s13 s14 s15 s16 s17 s18 s19 s20 s21 t : Sl} {r : Ev} : put (s0 :: s1 :: s2 :: s3 :: s4 :: s5 :: s6 :: s7 :: s8 :: s9 :: s10 :: s11 :: s12 :: s13 :: s14 :: s15 :: s16 :: s17 :: s18 :: s19 :: s20 :: s21 :: r) 21 t = s0 :: s1 :: s2 :: s3 :: s4 :: s5 :: s6 :: s7 :: s8 :: s9 :: s10 :: s11 :: s12 :: s13 :: s14 :: s15 :: s16 :: s17 :: s18 :: s19 :: s20 :: t :: r := rfl
theorem lk22 {s0 s1 s2 s3 s4 s5 s6 s7 s8 s9 s10 s11 s12 s13 s14 s15 s16 s17 s18 s19 s20 s21 s22 : Sl} {r : Ev} : look (s0 :: s1 :: s2 :: s3 :: s4 :: s5 :: s6 :: s7 :: s8 :: s9 :: s10 :: s11 :: s12 :: s13 :: s14 :: s15 :: s16 :: s17 :: s18 :: s19 :: s20 :: s21 :: s22 :: r) 22 = s22 := rfl
theorem pt22 {s0 s1 s2 s3 s4 s5 s6 s7 s8 s9 s10 s11 s12 s13 s14 s15 s16 s17 s18 s19 s20 s21 s22 t : Sl} {r : Ev} : put (s0 :: s1 :: s2 :: s3 :: s4 :: s5 :: s6 :: s7 :: s8 :: s9 :: s10 :: s11 :: s12 :: s13 :: s14 :: s15 :: s16 :: s17 :: s18 :: s19 :: s20 :: s21 :: s22 :: r) 22 t = s0 :: s1 :: s2 :: s3 :: s4 :: s5 :: s6 :: s7 :: s8 :: s9 :: s10 :: s11 :: s12 :: s13 :: s14 :: s15 :: s16 :: s17 :: s18 :: s19 :: s20 :: s21 :: t :: r := rfl
theorem lk23 {s0 s1 s2 s3 s4 s5 s6 s7 s8 s9 s10 s11 s12 s13 s14 s15 s16 s17 s18 s19 s20 s21 s22 s23 : Sl} {r : Ev} : look (s0 :: s1 :: s2 :: s3 :: s4 :: s5 :: s6 :: s7 :: s8 :: s9 :: s10 :: s11 :: s12 :: s13 :: s14 :: s15 :: s16 :: s17 :: s18 :: s19 :: s20 :: s21 :: s22 :: s23 :: r) 23 = s23 := rfl
theorem pt23 {s0 s1 s2 s3 s4 s5 s6 s7 s8 s9 s10 s11 s12 s13 s14 s15 s16 s17 s18 s19 s20 s21 s22 s23 t : Sl} {r : Ev} : put (s0 :: s1 :: s2 :: s3 :: s4 :: s5 :: s6 :: s7 :: s8 :: s9 :: s10 :: s11 :: s12 :: s13 :: s14 :: s15 :: s16 :: s17 :: s18 :: s19 :: s20 :: s21 :: s22 :: s23 :: r) 23 t = s0 :: s1 :: s2 :: s3 :: s4 :: s5 :: s6 :: s7 :: s8 :: s9 :: s10 :: s11 :: s12 :: s13 :: s14 :: s15 :: s16 :: s17 :: s18 :: s19 :: s20 :: s21 :: s22 :: t :: r := rfl
theorem lk24 {s0 s1 s2 s3 s4 s5 s6 s7 s8 s9 s10 s11 s12 s13 s14 s15 s16 s17 s18 s19 s20 s21 s22 s23 s24 : Sl} {r : Ev} : look (s0 :: s1 :: s2 :: s3 :: s4 :: s5 :: s6 :: s7 :: s8 :: s9 :: s10 :: s11 :: s12 :: s13 :: s14 :: s15 :: s16 :: s17 :: s18 :: s19 :: s20 :: s21 :: s22 :: s23 :: s24 :: r) 24 = s24 := rfl
theorem pt24 {s0 s1 s2 s3 s4 s5 s6 s7 s8 s9 s10 s11 s12 s13 s14 s15 s16 s17 s18 s19 s20 s21 s22 s23 s24 t : Sl} {r : Ev} : put (s0 :: s1 :: s2 :: s3 :: s4 :: s5 :: s6 :: s7 :: s8 :: s9 :: s10 :: s11 :: s12 :: s13 :: s14 :: s15 :: s16 :: s17 :: s18 :: s19 :: s20 :: s21 :: s22 :: s23 :: s24 :: r) 24 t = s0 :: s1 :: s2 :: s3 :: s4 :: s5 :: s6 :: s7 :: s8 :: s9 :: s10 :: s11 :: s12 :: s13 :: s14 :: s15 :: s16 :: s17 :: s18 :: s19 :: s20 :: s21 :: s22 :: s23 :: t :: r := rfl
theorem lk25 {s0 s1 s2 s3 s4 s5 s6 s7 s8 s9 s10 s11 s12 s13 s14 s15 s16 s17 s18 s19 s20 s21 s22 s23 s24 s25 : Sl} {r : Ev} : look (s0 :: s1 :: s2 :: s3 :: s4 :: s5 :: s6 :: s7 :: s8 :: s9 :: s10 :: s11 :: s12 :: s13 :: s14 :: s15 :: s16 :: s17 :: s18 :: s19 :: s20 :: s21 :: s22 :: s23 :: s24 :: s25 :: r) 25 = s25 := rfl
theorem pt25 {s0 s1 s2 s3 s4 s5 s6 s7 s8 s9 s10 s11 s12 s13 s14 s15 s16 s17 s18 s19 s20 s21 s22 s23 s24 s25 t : Sl} {r : Ev} : put (s0 :: s1 :: s2 :: s3 :: s4 :: s5 :: s6 :: s7 :: s8 :: s9 :: s10 :: s11 :: s12 :: s13 :: s14 :: s15 :: s16 :: s17 :: s18 :: s19 :: s20 :: s21 :: s22 :: s23 :: s24 :: s25 :: r) 25 t = s0 :: s1 :: s2 :: s3 :: s4 :: s5 :: s6 :: s7 :: s8 :: s9 :: s10 :: s11 :: s12 :: s13 :: s14 :: s15 :: s16 :: s17 :: s18 :: s19 :: s20 :: s21 :: s22 :: s23 :: s24 :: t :: r := rfl
theorem rp0 : List.replicate 0 Sl.non = [] := rfl
theorem rp1 : List.replicate 1 Sl.non = [.non] := rfl
theorem rp2 : List.replicate 2 Sl.non = [.non, .non] := rfl
theorem rp3 : List.replicate 3 Sl.non = [.non, .non, .non] := rfl
theorem rp4 : List.replicate 4 Sl.non = [.non, .non, .non, .non] := rfl
theorem rp5 : List.replicate 5 Sl.non = [.non, .non, .non, .non, .non] := rfl
theorem rp6 : List.replicate 6 Sl.non = [.non, .non, .non, .non, .non, .non] := rfl
theorem rp7 : List.replicate 7 Sl.non = [.non, .non, .non, .non, .non, .non, .non] := rfl
theorem rp8 : List.replicate 8 Sl.non = [.non, .non, .non, .non, .non, .non, .non, .non] := rfl
theorem rp9 : List.replicate 9 Sl.non = [.non, .non, .non, .non, .non, .non, .non, .non, .non] := rfl
theorem rp10 : List.replicate 10 Sl.non = [.non, .non, .non, .non, .non, .non, .non, .non, .non, .non] := rfl
theorem rp11 : List.replicate 11 Sl.non = [.non, .non, .non, .non, .non, .non, .non, .non, .non, .non, .non] := rfl
theorem rp12 : List.replicate 12 Sl.non = [.non, .non, .non, .non, .non, .non, .non, .non, .non, .non, .non, .non] := rfl
theorem rp13 : List.replicate 13 Sl.non = [.non, .non, .non, .non, .non, .non, .non, .non, .non, .non, .non, .non, .non] := rfl
theorem rp14 : List.replicate 14 Sl.non = [.non, .non, .non, .non, .non, .non, .non, .non, .non, .non, .non, .non, .non, .non] := rfl
theorem rp15 : List.replicate 15 Sl.non = [.non, .non, .non, .non, .non, .non, .non, .non, .non, .non, .non, .non, .non, .non, .non] := rfl
theorem rp16 : List.replicate 16 Sl.non = [.non, .non, .non, .non, .non, .non, .non, .non, .non, .non, .non, .non, .non, .non, .non, .non] := rfl
theorem rp17 : List.replicate 17 Sl.non = [.non, .non, .non, .non, .non, .non, .non, .non, .non, .non, .non, .non, .non, .non, .non, .non, .non] := rfl
theorem rp18 : List.replicate 18 Sl.non = [.non, .non, .non, .non, .non, .non, .non, .non, .non, .non, .non, .non, .non, .non, .non, .non, .non, .non] := rfl
theorem rp19 : List.replicate 19 Sl.non = [.non, .non, .non, .non, .non, .non, .non, .non, .non, .non, .non, .non, .non, .non, .non, .non, .non, .non, .non] := rfl
theorem rp20 : List.replicate 20 Sl.non = [.non, .non, .non, .non, .non, .non, .non, .non, .non, .non, .non, .non, .non, .non, .non, .non, .non, .non, .non, .non] := rfl
theorem rp21 : List.replicate 21 Sl.non = [.non, .non, .non, .non, .non, .non, .non, .non, .non, .non, .non, .non, .non, .non, .non, .non, .non, .non, .non, .non, .non] := rfl
theorem rp22 : List.replicate 22 Sl.non = [.non, .non, .non, .non, .non, .non, .non, .non, .non, .non, .non, .non, .non, .non, .non, .non, .non, .non, .non, .non, .non, .non] := rfl
theorem rp23 : List.replicate 23 Sl.non = [.non, .non, .non, .non, .non, .non, .non, .non, .non, .non, .non, .non, .non, .non, .non, .non, .non, .non, .non, .non, .non, .non, .non] := rfl
theorem rp24 : List.replicate 24 Sl.non = [.non, .non, .non, .non, .non, .non, .non, .non, .non, .non, .non, .non, .non, .non, .non, .non, .non, .non, .non, .non, .non, .non, .non, .non] := rfl
theorem rp25 : List.replicate 25 Sl.non = [.non, .non, .non, .non, .non, .non, .non, .non, .non, .non, .non, .non, .non, .non, .non, .non, .non, .non, .non, .non, .non, .non, .non, .non, .non] := rfl
theorem rp26 : List.replicate 26 Sl.non = [.non, .non, .non, .non, .non, .non, .non, .non, .non, .non, .non, .non, .non, .non, .non, .non, .non, .non, .non, .non, .non, .non, .non, .non, .non, .non] := rfl
theorem rp27 : List.replicate 27 Sl.non = [.non, .non, .non, .non, .non, .non, .non, .non, .non, .non, .non, .non, .non, .non, .non, .non, .non, .non, .non, .non, .non, .non, .non, .non, .non, .non, .non] := rfl
theorem rp28 : List.replicate 28 Sl.non = [.non, .non, .non, .non, .non, .non, .non, .non, .non, .non, .non, .non, .non, .non, .non, .non, .non, .non, .non, .non, .non, .non, .non, .non, .non, .non, .non, .non] := rfl
theorem rp29 : List.replicate 29 Sl.non = [.non, .non, .non, .non, .non, .non, .non, .non, .non, .non, .non, .non, .non, .non, .non, .non, .non, .non, .non, .non, .non, .non, .non, .non, .non, .non, .non, .non, .non] := rfl
theorem rp30 : List.replicate 30 Sl.non = [.non, .non, .non, .non, .non, .non, .non, .non, .non, .non, .non, .non, .non, .non, .non, .non, .non, .non, .non, .non, .non, .non, .non, .non, .non, .non, .non, .non, .non, .non] := rfl
structure U {α : Sort u} (f : α) : Type where
def bU {α β : Type} (x : Ro α) (f : α → Ev → Ro β) (_ : U f) : Ro β := x.bind f
def Wp {α : Type} (r : Ro α) (Q : α → Ev → Prop) (_ : U Q) : Prop := ∃ a ρ, r = .ok a ρ ∧ Q a ρ
theorem bind_U {α β : Type} {x : Ro α} {f : α → Ev → Ro β} : x.bind f = bU x f ⟨⟩ := rfl
theorem wp_bU {α β : Type} {x : Ro α} {f : α → Ev → Ro β} {u : U f} {Q : β → Ev → Prop} {v : U Q} : Wp (bU x f u) Q v = Wp x (fun a ρ => Wp (f a ρ) Q ⟨⟩) ⟨⟩ := by
  unfold Wp bU
  cases x with
  | ok a ρ =>
    show (∃ b ρ', f a ρ = .ok b ρ' ∧ Q b ρ') = _
    exact propext ⟨fun h => ⟨a, ρ, rfl, h⟩, fun ⟨_, _, e, h⟩ => by cases e; exact h⟩
  | exc _ _ => exact propext ⟨fun ⟨_, _, e, _⟩ => (nomatch e), fun ⟨_, _, e, _⟩ => (nomatch e)⟩
  | bad => exact propext ⟨fun ⟨_, _, e, _⟩ => (nomatch e), fun ⟨_, _, e, _⟩ => (nomatch e)⟩
theorem wp_bind {α β : Type} {x : Ro α} {f : α → Ev → Ro β} {Q : β → Ev → Prop} {v : U Q} : Wp (x.bind f) Q v = Wp x (fun a ρ => Wp (f a ρ) Q ⟨⟩) ⟨⟩ := wp_bU (u := ⟨⟩)
theorem wp_cg {α : Type} {x : Ro α} {P Q : α → Ev → Prop} {u : U P} {v : U Q} (h : ∀ a ρ, P a ρ = Q a ρ) : Wp x P u = Wp x Q v := by
  have e : P = Q := funext fun a => funext fun ρ => h a ρ
  subst e; rfl
theorem wp_ok {α : Type} {a : α} {ρ : Ev} {Q : α → Ev → Prop} {v : U Q} : Wp (.ok a ρ) Q v = Q a ρ := propext ⟨fun ⟨_, _, e, h⟩ => by cases e; exact h, fun h => ⟨a, ρ, rfl, h⟩⟩
theorem wp_bad {α : Type} {Q : α → Ev → Prop} {v : U Q} : Wp (.bad : Ro α) Q v = False := propext ⟨fun ⟨_, _, e, _⟩ => (nomatch e), False.elim⟩
theorem wp_exc {α : Type} {e : Ex} {ρ : Ev} {Q : α → Ev → Prop} {v : U Q} : Wp (.exc e ρ : Ro α) Q v = False := propext ⟨fun ⟨_, _, e, _⟩ => (nomatch e), False.elim⟩
theorem wp_if {α : Type} {c : Prop} [Decidable c] {x y : Ro α} {Q : α → Ev → Prop} {v : U Q} : Wp (if c then x else y) Q v = if c then Wp x Q ⟨⟩ else Wp y Q ⟨⟩ := by
  by_cases h : c
  · rw [if_pos h, if_pos h]
  · rw [if_neg h, if_neg h]
theorem if_F {c p : Prop} [Decidable c] : (if c then p else False) = (c ∧ p) := by
  by_cases h : c
  · rw [if_pos h]; exact propext ⟨fun q => ⟨h, q⟩, fun q => q.2⟩
  · rw [if_neg h]; exact propext ⟨False.elim, fun q => h q.1⟩
theorem if_tt {α : Type} {x y : α} : (if true = true then x else y) = x := rfl
theorem if_ff {α : Type} {x y : α} : (if false = true then x else y) = y := rfl
theorem out_if {c : Prop} [Decidable c] {x y : PR} {ρ : Ev} : (if c then x else y).out ρ = if c then x.out ρ else y.out ρ := by
  by_cases h : c
  · rw [if_pos h, if_pos h]
  · rw [if_neg h, if_neg h]
theorem look_end {i : Nat} : look [] i = .non := by cases i <;> rfl
theorem escR_tmp' {ρ : Ev} {d : PyData} : escR ρ (.tmp d) = .ok d ρ := rfl
/-! loops -/
def Kf (I Q : Ev → Prop) (R : RV → Ev → Prop) : Fl → Ev → Prop
  | .nx, ρ => I ρ
  | .ct, ρ => I ρ
  | .brk, ρ => Q ρ
  | .ret r, ρ => R r ρ
theorem Kf_nx {I Q : Ev → Prop} {R : RV → Ev → Prop} {ρ : Ev} : Kf I Q R .nx ρ = I ρ := rfl
theorem Kf_ct {I Q : Ev → Prop} {R : RV → Ev → Prop} {ρ : Ev} : Kf I Q R .ct ρ = I ρ := rfl
theorem Kf_brk {I Q : Ev → Prop} {R : RV → Ev → Prop} {ρ : Ev} : Kf I Q R .brk ρ = Q ρ := rfl
theorem Kf_ret {I Q : Ev → Prop} {R : RV → Ev → Prop} {r : RV} {ρ : Ev} : Kf I Q R (.ret r) ρ = R r ρ := rfl
def gW (g : EvG) (d : PyData) (ρ : Ev) (Q : Ev → Prop) (_ : U Q) : Prop := ∃ ρ1, g d ρ = some ρ1 ∧ Q ρ1
theorem gW_N {i : Nat} {d : PyData} {ρ : Ev} {Q : Ev → Prop} {u : U Q} : gW (gN i) d ρ Q u = (settable (look ρ i) = true ∧ Q (put ρ i (.dat d .frz))) := by
  unfold gW
  rw [gN_]
  by_cases h : settable (look ρ i) = true
  · rw [if_pos h]; exact propext ⟨fun ⟨_, e, q⟩ => by cases e; exact ⟨h, q⟩, fun q => ⟨_, rfl, q.2⟩⟩
  · rw [if_neg h]; exact propext ⟨fun ⟨_, e, q⟩ => (nomatch e), fun q => absurd q.1 h⟩
def gsW (g : EvGs) (d : List PyData) (ρ : Ev) (Q : Ev → Prop) (_ : U Q) : Prop := ∃ ρ1, g d ρ = some ρ1 ∧ Q ρ1
theorem gsW_nil {ρ : Ev} {Q : Ev → Prop} {u : U Q} : gsW gNl [] ρ Q u = Q ρ := propext ⟨fun ⟨_, e, q⟩ => by cases e; exact q, fun q => ⟨_, rfl, q⟩⟩
theorem gsW_cons {g : EvG} {h : EvGs} {d : PyData} {r : List PyData} {ρ : Ev} {Q : Ev → Prop} {u : U Q} : gsW (gCs g h) (d :: r) ρ Q u = gW g d ρ (fun ρ1 => gsW h r ρ1 Q ⟨⟩) ⟨⟩ := by
  unfold gsW gW
  rw [gCs_]
  cases e : g d ρ with
  | none => exact propext ⟨fun ⟨_, e, _⟩ => (nomatch e), fun ⟨_, e, _⟩ => (nomatch e)⟩
  | some ρ1 => exact propext ⟨fun q => ⟨_, rfl, q⟩, fun ⟨_, e, q⟩ => by cases e; exact q⟩
theorem gW_T {n : Nat} {h : EvGs} {ds : List PyData} {ρ : Ev} {Q : Ev → Prop} {u : U Q} : gW (gT n h) (.tuple ds) ρ Q u = (ds.length = n ∧ gsW h ds ρ Q ⟨⟩) := by
  unfold gW gsW
  rw [gT_]
  by_cases e : ds.length = n
  · rw [if_pos e]; exact propext ⟨fun q => ⟨e, q⟩, fun q => q.2⟩
  · rw [if_neg e]; exact propext ⟨fun ⟨_, e, _⟩ => (nomatch e), fun q => absurd q.1 e⟩
theorem wp_toR {g : EvG} {d : PyData} {ρ : Ev} {Q : Fl → Ev → Prop} {v : U Q} : Wp (toR g d ρ) Q v = gW g d ρ (fun ρ1 => Q .nx ρ1) ⟨⟩ := by
  unfold toR gW
  cases e : g d ρ with
  | none => exact propext ⟨fun ⟨_, _, e, _⟩ => (nomatch e), fun ⟨_, e, _⟩ => (nomatch e)⟩
  | some ρ1 => exact wp_ok.trans (propext ⟨fun q => ⟨_, rfl, q⟩, fun ⟨_, e, q⟩ => by cases e; exact q⟩)
def oW {α : Type} (o : Option α) (Q : α → Prop) (_ : U Q) : Prop := ∃ a, o = some a ∧ Q a
theorem oW_some {α : Type} {a : α} {Q : α → Prop} {u : U Q} : oW (some a) Q u = Q a := propext ⟨fun ⟨_, e, q⟩ => by cases e; exact q, fun q => ⟨_, rfl, q⟩⟩
theorem oW_none {α : Type} {Q : α → Prop} {u : U Q} : oW none Q u = False := propext ⟨fun ⟨_, e, q⟩ => (nomatch e), False.elim⟩
theorem oW_if {α : Type} {c : Prop} [Decidable c] {x y : Option α} {Q : α → Prop} {u : U Q} : oW (if c then x else y) Q u = if c then oW x Q ⟨⟩ else oW y Q ⟨⟩ := by
  by_cases h : c
  · rw [if_pos h, if_pos h]
  · rw [if_neg h, if_neg h]
theorem oW_bind {α β : Type} {o : Option α} {f : α → Option β} {Q : β → Prop} {u : U Q} : oW (o.bind f) Q u = oW o (fun a => oW (f a) Q ⟨⟩) ⟨⟩ := by
  cases o with
  | none => rw [Option.bind_none, oW_none, oW_none]
  | some a => rw [Option.bind_some, oW_some]
theorem wp_par2 {i j : Nat} {ρ : Ev} {r s : RV} {Q : Fl → Ev → Prop} {v : U Q} : Wp (parR2 i j ρ [r, s]) Q v = oW (putR ρ i r) (fun ρ2 => oW (putR ρ2 j s) (fun ρ3 => Q .nx ρ3) ⟨⟩) ⟨⟩ := by
  show Wp (match (putR ρ i r).bind fun ρ2 => putR ρ2 j s with
    | some ρ3 => Ro.ok Fl.nx ρ3
    | none => .bad) Q v = _
  cases h : putR ρ i r with
  | none => rw [oW_none]; exact wp_bad
  | some ρ2 =>
    rw [oW_some, Option.bind_some]
    cases putR ρ2 j s with
    | none => rw [oW_none]; exact wp_bad
    | some ρ3 => rw [oW_some]; exact wp_ok
theorem wp_par3 {i j l : Nat} {ρ : Ev} {q r s : RV} {Q : Fl → Ev → Prop} {v : U Q} : Wp (parR3 i j l ρ [q, r, s]) Q v = oW (putR ρ i q) (fun ρ2 => oW (putR ρ2 j r) (fun ρ3 => oW (putR ρ3 l s) (fun ρ4 => Q .nx ρ4) ⟨⟩) ⟨⟩) ⟨⟩ := by
  show Wp (match (putR ρ i q).bind fun ρ2 => (putR ρ2 j r).bind fun ρ3 => putR ρ3 l s with
    | some ρ3 => Ro.ok Fl.nx ρ3
    | none => .bad) Q v = _
  cases h : putR ρ i q with
  | none => rw [oW_none]; exact wp_bad
  | some ρ2 =>
    rw [oW_some, Option.bind_some]
    cases h : putR ρ2 j r with
    | none => rw [oW_none]; exact wp_bad
    | some ρ3 =>
      rw [oW_some, Option.bind_some]
      cases putR ρ3 l s with
      | none => rw [oW_none]; exact wp_bad
      | some ρ4 => rw [oW_some]; exact wp_ok
theorem wp_sFor {iv : EvI} {g : EvG} {b : EvS} {ρ : Ev} {Q : Fl → Ev → Prop} {v : U Q} : Wp (sFor iv g b ρ) Q v = Wp (iv ρ) (fun its ρ1 => Wp (forL g b its ρ1) Q ⟨⟩) ⟨⟩ := wp_bind
theorem forL_cons {g : EvG} {b : EvS} {d : PyData} {ds : List PyData} {ρ : Ev} {Q : Fl → Ev → Prop} {v : U Q} : Wp (forL g b (d :: ds) ρ) Q v = gW g d ρ (fun ρ1 => Wp (b ρ1) (Kf (fun ρ2 => Wp (forL g b ds ρ2) Q ⟨⟩) (Q .nx) (fun r ρ2 => Q (.ret r) ρ2)) ⟨⟩) ⟨⟩ := by
  unfold gW
  show Wp (match g d ρ with
    | none => Ro.bad
    | some ρ1 => (b ρ1).bind fun f ρ2 => match f with
      | .nx => forL g b ds ρ2
      | .ct => forL g b ds ρ2
      | .brk => .ok .nx ρ2
      | .ret r => .ok (.ret r) ρ2) Q v = _
  cases g d ρ with
  | none => rw [wp_bad]; exact propext ⟨False.elim, fun ⟨_, e, _⟩ => (nomatch e)⟩
  | some ρ1 =>
    have e : Wp ((b ρ1).bind fun f ρ2 => match f with
      | .nx => forL g b ds ρ2
      | .ct => forL g b ds ρ2
      | .brk => .ok .nx ρ2
      | .ret r => .ok (.ret r) ρ2) Q v = Wp (b ρ1) (Kf (fun ρ2 => Wp (forL g b ds ρ2) Q ⟨⟩) (Q .nx) (fun r ρ2 => Q (.ret r) ρ2)) ⟨⟩ := wp_bind.trans (wp_cg fun f ρ2 => by
        cases f with
        | nx => rfl
        | ct => rfl
        | brk => exact wp_ok
        | ret r => exact wp_ok)
    exact e.trans (propext ⟨fun h => ⟨_, rfl, h⟩, fun ⟨_, q, h⟩ => by cases q; exact h⟩)
theorem forL_nil {g : EvG} {b : EvS} {ρ : Ev} {Q : Fl → Ev → Prop} {v : U Q} : Wp (forL g b [] ρ) Q v = Q .nx ρ := wp_ok
theorem Wp.mono {α : Type} {r : Ro α} {Q R : α → Ev → Prop} {u : U Q} {v : U R} (h : Wp r Q u) (i : ∀ a ρ, Q a ρ → R a ρ) : Wp r R v := by
  obtain ⟨a, ρ, e, q⟩ := h
  exact ⟨a, ρ, e, i a ρ q⟩
theorem gW.mono {g : EvG} {d : PyData} {ρ : Ev} {Q R : Ev → Prop} {u : U Q} {v : U R} (h : gW g d ρ Q u) (i : ∀ ρ, Q ρ → R ρ) : gW g d ρ R v := by
  obtain ⟨a, e, q⟩ := h
  exact ⟨a, e, i a q⟩
theorem Kf.mono {I I' Q Q' : Ev → Prop} {R R' : RV → Ev → Prop} (i : ∀ ρ, I ρ → I' ρ) (q : ∀ ρ, Q ρ → Q' ρ) (r : ∀ v ρ, R v ρ → R' v ρ) : ∀ f ρ, Kf I Q R f ρ → Kf I' Q' R' f ρ
  | .nx, ρ, h => i ρ h
  | .ct, ρ, h => i ρ h
  | .brk, ρ, h => q ρ h
  | .ret v, ρ, h => r v ρ h
/-- a for loop with an invariant over the place -/
theorem forL_inv {g : EvG} {b : EvS} {Q : Fl → Ev → Prop} (I : Nat → Ev → Prop) : ∀ (its : List PyData) {ρ : Ev} {v : U Q}, I 0 ρ →
    (∀ i d ρ, its[i]? = some d → I i ρ → gW g d ρ (fun ρ1 => Wp (b ρ1) (Kf (I (i + 1)) (Q .nx) (fun r ρ2 => Q (.ret r) ρ2)) ⟨⟩) ⟨⟩) →
    (∀ ρ, I its.length ρ → Q .nx ρ) → Wp (forL g b its ρ) Q v := by
  intro its
  induction its generalizing I with
  | nil => intro ρ v h0 _ fin; rw [forL_nil]; exact fin ρ h0
  | cons d ds ih =>
    intro ρ v h0 step fin
    rw [forL_cons]
    refine (step 0 d ρ rfl h0).mono fun ρ1 h => h.mono (Kf.mono (fun ρ2 h2 => ?_) (fun _ h => h) (fun _ _ h => h))
    exact ih (fun i => I (i + 1)) h2 (fun i d' ρ' e hi => step (i + 1) d' ρ' e hi) fin
/-- a loop over numbers -/
theorem forL_ints {g : EvG} {b : EvS} {Q : Fl → Ev → Prop} (I : Nat → Ev → Prop) {lo : Int} {n : Nat} {ρ : Ev} {v : U Q} (h0 : I 0 ρ)
    (step : ∀ i ρ, i < n → I i ρ → gW g (.int (lo + (i : Int))) ρ (fun ρ1 => Wp (b ρ1) (Kf (I (i + 1)) (Q .nx) (fun r ρ2 => Q (.ret r) ρ2)) ⟨⟩) ⟨⟩)
    (fin : ∀ ρ, I n ρ → Q .nx ρ) : Wp (forL g b (intsOf lo n) ρ) Q v := by
  refine forL_inv I _ h0 (fun i d ρ e hi => ?_) (by rw [intsOf_len]; exact fin)
  have hlt : i < n := by
    have := (List.getElem?_eq_some_iff.mp e).1
    rwa [intsOf_len] at this
  rw [intsOf_get hlt] at e
  cases e
  exact step i ρ hlt hi
theorem wp_iR1 {a : EvE} {ρ : Ev} {Q : List PyData → Ev → Prop} {v : U Q} : Wp (iR1 a ρ) Q v = Wp (a ρ) (fun r ρ1 => Wp (match res ρ1 r with
  | some (.int j) => if -rlim ≤ j ∧ j < rlim then .ok (intsOf 0 j.toNat) ρ1 else .bad
  | _ => Ro.bad) Q ⟨⟩) ⟨⟩ := wp_bind
theorem wp_iR2 {a b : EvE} {ρ : Ev} {Q : List PyData → Ev → Prop} {v : U Q} : Wp (iR2 a b ρ) Q v = Wp (a ρ) (fun r ρ1 => Wp (b ρ1) (fun t ρ2 => Wp (match res ρ2 r, res ρ2 t with
  | some (.int i), some (.int j) => if -rlim ≤ i ∧ i < rlim ∧ -rlim ≤ j ∧ j < rlim then .ok (intsOf i (j - i).toNat) ρ2 else .bad
  | _, _ => Ro.bad) Q ⟨⟩) ⟨⟩) ⟨⟩ := wp_bind.trans (by
    refine wp_cg fun r ρ1 => ?_
    exact wp_bind)
theorem wp_iSeq {a : EvE} {ρ : Ev} {Q : List PyData → Ev → Prop} {v : U Q} : Wp (iSeq a ρ) Q v = Wp (a ρ) (fun r ρ1 => Wp (escR ρ1 r) (fun d ρ2 => Wp (match d with
    | .list ds => .ok ds ρ2
    | .tuple ds => .ok ds ρ2
    | _ => Ro.bad) Q ⟨⟩) ⟨⟩) ⟨⟩ := wp_bind.trans (by
    refine wp_cg fun r ρ1 => ?_
    exact wp_bind)
/-! comprehensions -/
def lcW (g : EvG) (t : EvT) (e : EvE) (vs : List Nat) (its : List PyData) (ρ : Ev) (Q : List PyData → Ev → Prop) (_ : U Q) : Prop := ∃ xs ρ', lcL g t e vs its ρ = some (xs, ρ') ∧ Q xs ρ'
theorem wp_eLc {iv : EvI} {g : EvG} {t : EvT} {e : EvE} {vs : List Nat} {ρ : Ev} {Q : RV → Ev → Prop} {v : U Q} :
    Wp (eLc iv g t e vs ρ) Q v = Wp (iv ρ) (fun its ρ1 => its.length ≤ 16777216 ∧ vs.all (wipable ρ1) = true ∧ lcW g t e vs its (wipeE ρ1 vs) (fun xs ρ2 => Q (.tmp (.list xs)) (restore ρ1 ρ2 vs)) ⟨⟩) ⟨⟩ := by
  refine wp_bind.trans ?_
  refine wp_cg fun its ρ1 => ?_
  rw [wp_if, wp_bad, if_F]
  show ((its.length ≤ 16777216 ∧ _) ∧ _) = _
  rw [and_assoc]
  congr 1
  congr 1
  unfold lcW
  cases lcL g t e vs its (wipeE ρ1 vs) with
  | none => exact wp_bad.trans (propext ⟨False.elim, fun ⟨_, _, e, _⟩ => (nomatch e)⟩)
  | some p => exact wp_ok.trans (propext ⟨fun h => ⟨_, _, rfl, h⟩, fun ⟨_, _, e, h⟩ => by cases e; exact h⟩)
theorem lcW_nil {g : EvG} {t : EvT} {e : EvE} {vs : List Nat} {ρ : Ev} {Q : List PyData → Ev → Prop} {u : U Q} : lcW g t e vs [] ρ Q u = Q [] ρ := propext ⟨fun ⟨_, _, e, h⟩ => by cases e; exact h, fun h => ⟨_, _, rfl, h⟩⟩
def shrW (Q : PyData → Prop) : RV → Prop
  | .shr x => Q x
  | _ => False
theorem shrW_ {Q : PyData → Prop} {x : PyData} : shrW Q (.shr x) = Q x := rfl
/-- one step of a comprehension -/
def lcS (t : EvT) (e : EvE) (vs : List Nat) (ρ1 : Ev) (N : Ev → Prop) (Y : PyData → Ev → Prop) : Prop :=
  Wp (t ρ1) (fun c ρ2 => if c = true then Wp (eEsc e ρ2) (fun r ρ3 => shrW (fun x => vs.all (wipable ρ3) = true ∧ Y x (wipeE ρ3 vs)) r) ⟨⟩ else vs.all (wipable ρ2) = true ∧ N (wipeE ρ2 vs)) ⟨⟩
theorem lcW_cons {g : EvG} {t : EvT} {e : EvE} {vs : List Nat} {d : PyData} {ds : List PyData} {ρ : Ev} {Q : List PyData → Ev → Prop} {u : U Q}
    (h : gW g d ρ (fun ρ1 => lcS t e vs ρ1 (fun ρ' => lcW g t e vs ds ρ' Q ⟨⟩) (fun x ρ' => lcW g t e vs ds ρ' (fun xs => Q (x :: xs)) ⟨⟩)) ⟨⟩) : lcW g t e vs (d :: ds) ρ Q u := by
  obtain ⟨ρ1, e1, c, ρ2, e2, h⟩ := h
  cases c with
  | true =>
    obtain ⟨r, ρ3, e3, h⟩ := h
    cases r with
    | tmp _ => exact h.elim
    | var _ => exact h.elim
    | shr x =>
      obtain ⟨h1, xs, ρ', e4, q⟩ := h
      refine ⟨x :: xs, ρ', ?_, q⟩
      unfold lcL
      simp only [e1, e2, e3, h1, if_true, e4]
  | false =>
    obtain ⟨h1, xs, ρ', e4, q⟩ := h
    refine ⟨xs, ρ', ?_, q⟩
    unfold lcL
    simp only [e1, e2, h1, if_true, e4]
theorem lcS.mono {t : EvT} {e : EvE} {vs : List Nat} {ρ1 : Ev} {N N' : Ev → Prop} {Y Y' : PyData → Ev → Prop} (h : lcS t e vs ρ1 N Y) (n : ∀ ρ, N ρ → N' ρ) (y : ∀ x ρ, Y x ρ → Y' x ρ) : lcS t e vs ρ1 N' Y' := by
  refine Wp.mono h fun c ρ2 h => ?_
  cases c with
  | true =>
    rw [if_tt] at h ⊢
    refine Wp.mono h fun r ρ3 h => ?_
    cases r with
    | tmp _ => exact h.elim
    | var _ => exact h.elim
    | shr x => exact ⟨h.1, y _ _ h.2⟩
  | false => exact ⟨h.1, n _ h.2⟩
/-- a comprehension with an invariant over the place and what is gathered -/
theorem lcW_inv {g : EvG} {t : EvT} {e : EvE} {vs : List Nat} {Q : List PyData → Ev → Prop} (I : Nat → List PyData → Ev → Prop) (its : List PyData) {ρ : Ev} {u : U Q} (h0 : I 0 [] ρ)
    (step : ∀ i d xs ρ, its[i]? = some d → I i xs ρ → gW g d ρ (fun ρ1 => lcS t e vs ρ1 (I (i + 1) xs) (fun x => I (i + 1) (xs ++ [x]))) ⟨⟩)
    (fin : ∀ xs ρ, I its.length xs ρ → Q xs ρ) : lcW g t e vs its ρ Q u := by
  have key : ∀ (ds : List PyData) (J : Nat → List PyData → Ev → Prop) (pre : List PyData) (ρ : Ev) (R : List PyData → Ev → Prop), J 0 pre ρ →
      (∀ i d xs ρ, ds[i]? = some d → J i xs ρ → gW g d ρ (fun ρ1 => lcS t e vs ρ1 (J (i + 1) xs) (fun x => J (i + 1) (xs ++ [x]))) ⟨⟩) →
      (∀ xs ρ, J ds.length (pre ++ xs) ρ → R xs ρ) → lcW g t e vs ds ρ R ⟨⟩ := by
    intro ds
    induction ds with
    | nil => intro J pre ρ R h0 _ fin; rw [lcW_nil]; exact fin [] ρ (by rwa [List.append_nil])
    | cons d ds ih =>
      intro J pre ρ R h0 step fin
      refine lcW_cons ((step 0 d pre ρ rfl h0).mono fun ρ1 h => h.mono (fun ρ2 h2 => ?_) fun x ρ2 h2 => ?_)
      · exact ih (fun i => J (i + 1)) pre ρ2 R h2 (fun i d' xs ρ' e hi => step (i + 1) d' xs ρ' e hi) fin
      · refine ih (fun i => J (i + 1)) (pre ++ [x]) ρ2 _ h2 (fun i d' xs ρ' e hi => step (i + 1) d' xs ρ' e hi) fun xs ρ' hx => fin _ _ ?_
        rw [List.append_assoc] at hx
        exact hx
  exact key its I [] ρ Q h0 step fin
/-- a comprehension that changes nothing: what it gathers -/
theorem lcW_pure {g : EvG} {t : EvT} {e : EvE} {vs : List Nat} {Q : List PyData → Ev → Prop} (p : PyData → Bool) (f : PyData → PyData) (its : List PyData) {ρ : Ev} {u : U Q}
    (step : ∀ d, d ∈ its → gW g d ρ (fun ρ1 => lcS t e vs ρ1 (fun ρ' => p d = false ∧ ρ' = ρ) (fun x ρ' => p d = true ∧ x = f d ∧ ρ' = ρ)) ⟨⟩)
    (fin : Q ((its.filter p).map f) ρ) : lcW g t e vs its ρ Q u := by
  refine lcW_inv (fun i xs ρ' => ρ' = ρ ∧ xs = ((its.take i).filter p).map f) its ⟨rfl, rfl⟩ (fun i d xs ρ' hd ⟨h1, h2⟩ => ?_) fun xs ρ' ⟨h1, h2⟩ => ?_
  · subst h1
    have hm := List.mem_of_getElem? hd
    have ht : its.take (i + 1) = its.take i ++ [d] := by
      rw [List.take_add_one, hd]; rfl
    refine (step d hm).mono fun ρ1 h => h.mono (fun ρ2 ⟨a, b⟩ => ⟨b, ?_⟩) fun x ρ2 ⟨a, b, c⟩ => ⟨c, ?_⟩
    · rw [ht, List.filter_append, List.filter_cons_of_neg (by rw [a]; decide), List.filter_nil, List.append_nil]; exact h2
    · rw [ht, List.filter_append, List.filter_cons_of_pos a, List.filter_nil, List.map_append, h2, b]; rfl
  · subst h1
    rw [List.take_length] at h2
    rw [h2]; exact fin
/-! calls -/
def keepR (Q : RV → Ev → Prop) (rs : List RV) (ρ : Ev) : RV → Ev → Prop
  | .var _, _ => False
  | .shr d, os => oW (backs ρ rs os) (Q (.shr d)) .mk
  | .tmp d, os => oW (backs ρ rs os) (Q (.tmp d)) .mk
theorem keep_shr {Q : RV → Ev → Prop} {rs : List RV} {ρ os : Ev} {d : PyData} : keepR Q rs ρ (.shr d) os = oW (backs ρ rs os) (Q (.shr d)) .mk := rfl
theorem keep_tmp {Q : RV → Ev → Prop} {rs : List RV} {ρ os : Ev} {d : PyData} : keepR Q rs ρ (.tmp d) os = oW (backs ρ rs os) (Q (.tmp d)) .mk := rfl
theorem wp_callR {np : Nat} {F : FnD} {rs : List RV} {ρ : Ev} {Q : RV → Ev → Prop} {v : U Q} : Wp (callR np F rs ρ) Q v = (rs.length = np ∧ nodupB (refIx ρ rs) = true ∧ Wp (F (rs.map (argOf ρ))) (keepR Q rs ρ) ⟨⟩) := by
  unfold callR
  rw [wp_if, wp_bad, if_F, wp_if, wp_bad, if_F]
  congr 1
  congr 1
  cases F (rs.map (argOf ρ)) with
  | bad => exact wp_bad.trans wp_bad.symm
  | exc x os =>
    show Wp (match backs ρ rs os with
          | some ρ2 => (Ro.exc x ρ2 : Ro RV)
          | none => .bad) Q _ = _
    cases backs ρ rs os with
    | none => exact wp_bad.trans wp_exc.symm
    | some ρ2 => exact wp_exc.trans wp_exc.symm
  | ok r os =>
    rw [wp_ok]
    cases r with
    | var i => exact wp_bad
    | shr d =>
      rw [keep_shr]
      show Wp (match backs ρ rs os with
          | some ρ2 => Ro.ok (RV.shr d) ρ2
          | none => .bad) Q ⟨⟩ = _
      cases backs ρ rs os with
      | none => rw [oW_none]; exact wp_bad
      | some ρ2 => rw [oW_some]; exact wp_ok
    | tmp d =>
      rw [keep_tmp]
      show Wp (match backs ρ rs os with
          | some ρ2 => Ro.ok (RV.tmp d) ρ2
          | none => .bad) Q ⟨⟩ = _
      cases backs ρ rs os with
      | none => rw [oW_none]; exact wp_bad
      | some ρ2 => rw [oW_some]; exact wp_ok
theorem eC_call {np : Nat} {F : FnD} {a : EvA} {ρ : Ev} {Q : RV → Ev → Prop} {v : U Q} : Wp (eC_ np F a ρ) Q v = Wp (a ρ) (fun rs ρ1 => Wp (callR np F rs ρ1) Q ⟨⟩) ⟨⟩ := wp_bind
theorem eCk_call {np : Nat} {pi : List Nat} {F : FnD} {a : EvA} {ρ : Ev} {Q : RV → Ev → Prop} {v : U Q} : Wp (eCk np pi F a ρ) Q v = Wp (a ρ) (fun rs ρ1 => rs.length = np ∧ Wp (callR np F (permL rs pi) ρ1) Q ⟨⟩) ⟨⟩ := wp_bind.trans (by
    refine wp_cg fun rs ρ1 => ?_
    rw [wp_if, wp_bad, if_F])
theorem argOf_shr {ρ : Ev} {d : PyData} : argOf ρ (.shr d) = .dat d .frz := rfl
theorem argOf_tmp {ρ : Ev} {d : PyData} : argOf ρ (.tmp d) = .dat d .frz := rfl
theorem argOf_var {ρ : Ev} {i : Nat} : argOf ρ (.var i) = argS (look ρ i) := rfl
theorem argS_frz {d : PyData} : argS (.dat d .frz) = .dat d .frz := rfl
theorem argS_own {d : PyData} : argS (.dat d .own) = .dat d .par := rfl
theorem argS_par {d : PyData} : argS (.dat d .par) = .dat d .par := rfl
theorem argS_scr {ns : Th} : argS (.scr ns) = .scr ns := rfl
theorem refIx_nil {ρ : Ev} : refIx ρ [] = [] := rfl
theorem refIx_shr {ρ : Ev} {d : PyData} {rs : List RV} : refIx ρ (.shr d :: rs) = refIx ρ rs := rfl
theorem refIx_tmp {ρ : Ev} {d : PyData} {rs : List RV} : refIx ρ (.tmp d :: rs) = refIx ρ rs := rfl
theorem refd_own {d : PyData} : refd (.dat d .own) = true := rfl
theorem refd_par {d : PyData} : refd (.dat d .par) = true := rfl
theorem refd_frz {d : PyData} : refd (.dat d .frz) = false := rfl
theorem refd_scr {ns : Th} : refd (.scr ns) = false := rfl
theorem nodup_nil : nodupB [] = true := rfl
theorem nodup_one {i : Nat} : nodupB [i] = true := rfl
theorem backs_nil {ρ : Ev} {os : Ev} : backs ρ [] os = some ρ := by cases os <;> rfl
theorem backs_shr {ρ : Ev} {d : PyData} {rs : List RV} {o : Sl} {os : Ev} : backs ρ (.shr d :: rs) (o :: os) = backs ρ rs os := rfl
theorem backs_tmp {ρ : Ev} {d : PyData} {rs : List RV} {o : Sl} {os : Ev} : backs ρ (.tmp d :: rs) (o :: os) = backs ρ rs os := rfl
def backV (ρ : Ev) (i : Nat) (rs : List RV) (os : Ev) : Sl → Option Ev
  | .dat d .par => backs (put ρ i (.dat d (kdOf (look ρ i)))) rs os
  | _ => none
theorem backs_var {ρ : Ev} {i : Nat} {rs : List RV} {o : Sl} {os : Ev} : backs ρ (.var i :: rs) (o :: os) = if refd (look ρ i) = true then backV ρ i rs os o else backs ρ rs os := by
  show (if refd (look ρ i) = true then (match o with
      | .dat d .par => backs (put ρ i (.dat d (kdOf (look ρ i)))) rs os
      | _ => none) else backs ρ rs os) = _
  cases o with
  | non => rfl
  | scr _ => rfl
  | dat d k => cases k <;> rfl
theorem backV_ {ρ : Ev} {i : Nat} {rs : List RV} {os : Ev} {d : PyData} : backV ρ i rs os (.dat d .par) = backs (put ρ i (.dat d (kdOf (look ρ i)))) rs os := rfl
theorem kd_own {d : PyData} : kdOf (.dat d .own) = .own := rfl
theorem kd_par {d : PyData} : kdOf (.dat d .par) = .par := rfl
def fR (np : Nat) (Q : RV → Ev → Prop) : Fl → Ev → Prop
  | .nx, ρ => Q (.shr .none) (outs np ρ)
  | .ret r, ρ => Q r (outs np ρ)
  | _, _ => False
theorem fR_nx {np : Nat} {Q : RV → Ev → Prop} {ρ : Ev} : fR np Q .nx ρ = Q (.shr .none) (outs np ρ) := rfl
theorem fR_ret {np : Nat} {Q : RV → Ev → Prop} {ρ : Ev} {r : RV} : fR np Q (.ret r) ρ = Q r (outs np ρ) := rfl
/-- a def's function; x: errors may leave it -/
def defG (x : Bool) (np n : Nat) (body : EvS) : FnD := if x = true then defF np n body else defF0 np n body
/-- the def's body is run -/
theorem def_wp {x : Bool} {np n : Nat} {body : EvS} {args : Ev} {Q : RV → Ev → Prop} {v : U Q} (hl : args.length = np) (h : Wp (body (args ++ List.replicate (n - np) .non)) (fR np Q) ⟨⟩) : Wp (defG x np n body args) Q v := by
  obtain ⟨f, ρ, e, q⟩ := h
  have key : ∃ r ρ', defF0 np n body args = .ok r ρ' ∧ Q r ρ' := by
    rw [defF0_ hl, e]
    cases f with
    | nx => exact ⟨_, _, rfl, q⟩
    | ret r => exact ⟨_, _, rfl, q⟩
    | brk => exact q.elim
    | ct => exact q.elim
  cases x with
  | false => exact key
  | true =>
    show ∃ r ρ', defF np n body args = .ok r ρ' ∧ Q r ρ'
    unfold defF
    rw [if_pos hl, e]
    cases f with
    | nx => exact ⟨_, _, rfl, q⟩
    | ret r => exact ⟨_, _, rfl, q⟩
    | brk => exact q.elim
    | ct => exact q.elim
/-! while -/
theorem whL_wp {c : EvT} {b : EvS} {n : Nat} {ρ : Ev} {Q : Fl → Ev → Prop} {v : U Q} : Wp (whL c b (n + 1) ρ) Q v = Wp (c ρ) (fun k ρ1 => if k = true then Wp (b ρ1) (Kf (fun ρ2 => Wp (whL c b n ρ2) Q ⟨⟩) (Q .nx) (fun r ρ2 => Q (.ret r) ρ2)) ⟨⟩ else Q .nx ρ1) ⟨⟩ := by
  refine wp_bind.trans ?_
  refine wp_cg fun k ρ1 => ?_
  rw [wp_if, wp_ok]
  congr 1
  exact wp_bind.trans (wp_cg fun f ρ2 => by
    cases f with
    | nx => rfl
    | ct => rfl
    | brk => exact wp_ok
    | ret r => exact wp_ok)
theorem whL_inv {c : EvT} {b : EvS} {Q : Fl → Ev → Prop} (I : Nat → Ev → Prop) (step : ∀ m ρ, I m ρ → Wp (c ρ) (fun k ρ1 => if k = true then Wp (b ρ1) (Kf (fun ρ2 => ∃ m', m' < m ∧ I m' ρ2) (Q .nx) (fun r ρ2 => Q (.ret r) ρ2)) ⟨⟩ else Q .nx ρ1) ⟨⟩) :
    ∀ (n m : Nat) {ρ : Ev} {v : U Q}, m < n → I m ρ → Wp (whL c b n ρ) Q v
  | 0, _, _, _, h, _ => absurd h (Nat.not_lt_zero _)
  | n + 1, m, ρ, v, h, h0 => by
    rw [whL_wp]
    refine (step m ρ h0).mono fun k ρ1 hk => ?_
    cases k with
    | false => exact hk
    | true =>
      rw [if_tt] at hk ⊢
      exact Wp.mono hk (Kf.mono (fun ρ2 ⟨m', lt, h2⟩ => whL_inv I step n m' (by omega) h2) (fun _ h => h) (fun _ _ h => h))
/-! the operations, whole -/
theorem o_mul {i j : Int} : gMul (.int i) (.int j) = if bits i + bits j < 1000000 then .val (.int (i * j)) else .bad := rfl
theorem o_mulL {a : List PyData} {j : Int} : gMul (.list a) (.int j) = if -9223372036854775808 ≤ j ∧ j < 9223372036854775808 ∧ a.length * j.toNat ≤ 16777216 then .new (List.replicate j.toNat a).flatten else .bad := rfl
theorem o_mod {i j : Int} : gMod (.int i) (.int j) = if 0 < j then .val (.int (i % j)) else .bad := rfl
theorem o_fdiv {i j : Int} : gFdiv (.int i) (.int j) = if 0 < j ∧ bits j < 9000 then .val (.int (i / j)) else .bad := rfl
theorem o_pow {i j : Int} : gPow (.int i) (.int j) = if 0 ≤ j ∧ (bits i + 1) * j.toNat ≤ 100000000 then .val (.int (i ^ j.toNat)) else .bad := rfl
theorem o_eq {x y : PyData} : gEq x y = if SeqAt.shaped x = true ∧ SeqAt.shaped y = true then .val (.bool (PyData.eqv x y)) else .bad := rfl
theorem o_ne {x y : PyData} : gNe x y = if SeqAt.shaped x = true ∧ SeqAt.shaped y = true then .val (.bool (!PyData.eqv x y)) else .bad := rfl
theorem o_in_l {neg : Bool} {x : PyData} {ds : List PyData} : gIn neg x (.list ds) = if flatD x = true ∧ ds.all flatD = true then .val (.bool (if neg then !inD x ds else inD x ds)) else .bad := rfl
theorem o_in_t {neg : Bool} {x : PyData} {ds : List PyData} : gIn neg x (.tuple ds) = if flatD x = true ∧ ds.all flatD = true then .val (.bool (if neg then !inD x ds else inD x ds)) else .bad := rfl
theorem o_repr {d : PyData} : gRepr [d] = if d.showable = true ∧ d.hasDict = false ∧ d.depth ≤ 64 ∧ shB d ≤ 16777216 then .val (.str d.shown) else .bad := rfl
theorem o_addT {a b : List PyData} : gAdd (.tuple a) (.tuple b) = if a.length + b.length ≤ 16777216 then .val (.tuple (a ++ b)) else .bad := rfl
theorem o_addL {a b : List PyData} : gAdd (.list a) (.list b) = if a.length + b.length ≤ 16777216 then .new (a ++ b) else .bad := rfl
theorem o_is {x : PyData} : gIs x .none = .val (.bool (isNone x)) := rfl
theorem o_isn {x : PyData} : gIsNot x .none = .val (.bool (!isNone x)) := rfl
theorem wp_mkT {ρ : Ev} {ds : List PyData} {Q : RV → Ev → Prop} {v : U Q} : Wp (mkT ρ (some ds)) Q v = (ds.length ≤ 16777216 ∧ Q (.shr (.tuple ds)) ρ) := by
  show Wp (if ds.length ≤ 16777216 then Ro.ok (RV.shr (.tuple ds)) ρ else .bad) Q v = _
  rw [wp_if, wp_ok, wp_bad, if_F]
theorem wp_mkL {ρ : Ev} {ds : List PyData} {Q : RV → Ev → Prop} {v : U Q} : Wp (mkL ρ (some ds)) Q v = (ds.length ≤ 16777216 ∧ Q (.tmp (.list ds)) ρ) := by
  show Wp (if ds.length ≤ 16777216 then Ro.ok (RV.tmp (.list ds)) ρ else .bad) Q v = _
  rw [wp_if, wp_ok, wp_bad, if_F]
theorem wp_ixE {j : Nat} {d : PyData} {ρ : Ev} {n : Int} {ds : List PyData} {kd : Kd} {Q : Fl → Ev → Prop} {v : U Q} : Wp (ixE j d ρ (some (.int n)) (some (ds, kd))) Q v = oW (ixN ds.length n) (fun m => Q .nx (put ρ j (.dat (.list (ds.set m d)) kd))) ⟨⟩ := by
  show Wp (match ixN ds.length n with
    | some m => Ro.ok Fl.nx (put ρ j (.dat (.list (ds.set m d)) kd))
    | none => .bad) Q v = _
  cases ixN ds.length n with
  | none => rw [oW_none]; exact wp_bad
  | some m => rw [oW_some]; exact wp_ok
theorem wp_mtR {g : GM} {j : Nat} {ρ : Ev} {es ds : List PyData} {k : Kd} {Q : RV → Ev → Prop} {v : U Q} : Wp (mtR g j ρ (some es) (some (ds, k))) Q v = oW (g ds es) (fun p => Q (.shr p.2) (put ρ j (.dat (.list p.1) k))) ⟨⟩ := by
  show Wp (match g ds es with
    | some (ds', c) => Ro.ok (RV.shr c) (put ρ j (.dat (.list ds') k))
    | none => .bad) Q v = _
  cases g ds es with
  | none => rw [oW_none]; exact wp_bad
  | some m => rw [oW_some]; exact wp_ok
theorem o_append {ds : List PyData} {e : PyData} : gAppend ds [e] = if ds.length < 16777216 then some (ds ++ [e], .none) else none := rfl
/-- an item -/
theorem wp_itR {o : Option PyData} {ρ : Ev} {Q : RV → Ev → Prop} {v : U Q} : Wp ((itR o).out ρ) Q v = oW o (fun d => Q (.shr d) ρ) ⟨⟩ := by
  cases o with
  | none => rw [oW_none]; exact wp_bad
  | some d => rw [oW_some]; exact wp_ok
def scN : Sl → Option (List Int)
  | .scr (.nums ns) => some ns
  | _ => none
theorem wp_scrLen {i : Nat} {ρ : Ev} {Q : RV → Ev → Prop} {v : U Q} : Wp (eScrLen i ρ) Q v = oW (scN (look ρ i)) (fun ns => Q (.shr (.int ns.length)) ρ) ⟨⟩ := by
  unfold eScrLen
  cases look ρ i with
  | non => exact wp_bad.trans oW_none.symm
  | dat _ _ => exact wp_bad.trans oW_none.symm
  | scr ns =>
    rcases ns with ns | x | _
    rotate_left 1
    · exact wp_bad.trans oW_none.symm
    · exact wp_bad.trans oW_none.symm
    rw [wp_ok]; exact (oW_some (Q := fun ns : List Int => Q (.shr (.int ns.length)) ρ)).symm
theorem scN_ {ns : List Int} : scN (.scr (.nums ns)) = some ns := rfl
def asI : Option PyData → Option Int
  | some (.int i) => some i
  | _ => none
theorem asI_ {i : Int} : asI (some (.int i)) = some i := rfl
theorem wp_scrIx {i : Nat} {e : EvE} {ρ : Ev} {Q : RV → Ev → Prop} {v : U Q} : Wp (eScrIx i e ρ) Q v = oW (scN (look ρ i)) (fun _ => Wp (e ρ) (fun r ρ1 => oW (scN (look ρ1 i)) (fun ns => oW (asI (res ρ1 r)) (fun k => oW (atI ns k) (fun n => Q (.shr (.int n)) ρ1) ⟨⟩) ⟨⟩) ⟨⟩) ⟨⟩) ⟨⟩ := by
  unfold eScrIx
  cases h : look ρ i with
  | non => exact wp_bad.trans oW_none.symm
  | dat _ _ => exact wp_bad.trans oW_none.symm
  | scr ns =>
    rcases ns with ns | x | _
    rotate_left 1
    · exact wp_bad.trans oW_none.symm
    · exact wp_bad.trans oW_none.symm
    rw [scN_, oW_some]
    refine wp_bind.trans ?_
    refine wp_cg fun r ρ1 => ?_
    cases look ρ1 i with
    | non => exact wp_bad.trans oW_none.symm
    | dat _ _ => exact wp_bad.trans oW_none.symm
    | scr ns =>
      rcases ns with ns | x | _
      rotate_left 1
      · exact wp_bad.trans oW_none.symm
      · exact wp_bad.trans oW_none.symm
      rw [scN_, oW_some]
      cases res ρ1 r with
      | none => exact wp_bad.trans oW_none.symm
      | some d =>
        cases d with
        | int k =>
          rw [asI_, oW_some]
          show Wp (match atI ns k with
            | some n => Ro.ok (RV.shr (.int n)) ρ1
            | none => .bad) Q ⟨⟩ = _
          cases atI ns k with
          | none => exact wp_bad.trans oW_none.symm
          | some n => rw [oW_some]; exact wp_ok
        | _ => exact wp_bad.trans oW_none.symm
theorem wp_TR1 {a : EvE} {ρ : Ev} {Q : RV → Ev → Prop} {v : U Q} : Wp (eTR1 a ρ) Q v = Wp (a ρ) (fun r ρ1 => oW (asI (res ρ1 r)) (fun j => okRg 0 j = true ∧ Q (.shr (.tuple (intsOf 0 j.toNat))) ρ1) ⟨⟩) ⟨⟩ := by
  refine wp_bind.trans ?_
  refine wp_cg fun r ρ1 => ?_
  cases res ρ1 r with
  | none => exact wp_bad.trans oW_none.symm
  | some d =>
    cases d with
    | int k => rw [asI_, oW_some, ← wp_ok (v := ⟨⟩) (Q := Q), ← if_F, ← wp_bad (v := ⟨⟩) (Q := Q), ← wp_if]
    | _ => exact wp_bad.trans oW_none.symm
theorem wp_LR1 {a : EvE} {ρ : Ev} {Q : RV → Ev → Prop} {v : U Q} : Wp (eLR1 a ρ) Q v = Wp (a ρ) (fun r ρ1 => oW (asI (res ρ1 r)) (fun j => okRg 0 j = true ∧ Q (.tmp (.list (intsOf 0 j.toNat))) ρ1) ⟨⟩) ⟨⟩ := by
  refine wp_bind.trans ?_
  refine wp_cg fun r ρ1 => ?_
  cases res ρ1 r with
  | none => exact wp_bad.trans oW_none.symm
  | some d =>
    cases d with
    | int k => rw [asI_, oW_some, ← wp_ok (v := ⟨⟩) (Q := Q), ← if_F, ← wp_bad (v := ⟨⟩) (Q := Q), ← wp_if]
    | _ => exact wp_bad.trans oW_none.symm
theorem wp_R1 {a : EvE} {ρ : Ev} {Q : List PyData → Ev → Prop} {v : U Q} : Wp (iR1 a ρ) Q v = Wp (a ρ) (fun r ρ1 => oW (asI (res ρ1 r)) (fun j => (-4611686018427387904 ≤ j ∧ j < 4611686018427387904) ∧ Q (intsOf 0 j.toNat) ρ1) ⟨⟩) ⟨⟩ := by
  rw [wp_iR1]
  refine wp_cg fun r ρ1 => ?_
  cases res ρ1 r with
  | none => exact wp_bad.trans oW_none.symm
  | some d =>
    cases d with
    | int k =>
      rw [asI_, oW_some, ← wp_ok (v := ⟨⟩) (Q := Q), ← if_F, ← wp_bad (v := ⟨⟩) (Q := Q), ← wp_if]
      rfl
    | _ => exact wp_bad.trans oW_none.symm
theorem wp_R2 {a b : EvE} {ρ : Ev} {Q : List PyData → Ev → Prop} {v : U Q} : Wp (iR2 a b ρ) Q v = Wp (a ρ) (fun r ρ1 => Wp (b ρ1) (fun t ρ2 => oW (asI (res ρ2 r)) (fun i => oW (asI (res ρ2 t)) (fun j => (-4611686018427387904 ≤ i ∧ i < 4611686018427387904 ∧ -4611686018427387904 ≤ j ∧ j < 4611686018427387904) ∧ Q (intsOf i (j - i).toNat) ρ2) ⟨⟩) ⟨⟩) ⟨⟩) ⟨⟩ := by
  rw [wp_iR2]
  refine wp_cg fun r ρ1 => ?_
  refine wp_cg fun t ρ2 => ?_
  cases res ρ2 r with
  | none => exact wp_bad.trans oW_none.symm
  | some d =>
    cases d with
    | int k =>
      rw [asI_, oW_some]
      cases res ρ2 t with
      | none => exact wp_bad.trans oW_none.symm
      | some d =>
        cases d with
        | int k =>
          rw [asI_, oW_some, ← wp_ok (v := ⟨⟩) (Q := Q), ← if_F, ← wp_bad (v := ⟨⟩) (Q := Q), ← wp_if]
          rfl
        | _ => exact wp_bad.trans oW_none.symm
    | _ => exact wp_bad.trans oW_none.symm
def asS : PyData → Option (List PyData)
  | .list ds => some ds
  | .tuple ds => some ds
  | _ => none
theorem asS_l {ds : List PyData} : asS (.list ds) = some ds := rfl
theorem asS_t {ds : List PyData} : asS (.tuple ds) = some ds := rfl
theorem wp_Seq {a : EvE} {ρ : Ev} {Q : List PyData → Ev → Prop} {v : U Q} : Wp (iSeq a ρ) Q v = Wp (a ρ) (fun r ρ1 => Wp (escR ρ1 r) (fun d ρ2 => oW (asS d) (fun ds => Q ds ρ2) ⟨⟩) ⟨⟩) ⟨⟩ := by
  rw [wp_iSeq]
  refine wp_cg fun r ρ1 => ?_
  refine wp_cg fun d ρ2 => ?_
  cases d with
  | list ds => rw [asS_l, oW_some]; exact wp_ok
  | tuple ds => rw [asS_t, oW_some]; exact wp_ok
  | _ => exact wp_bad.trans oW_none.symm
def bW (o : Option Bool) (T F : Prop) : Prop := match o with
  | some true => T
  | some false => F
  | none => False
theorem wp_and {a b : EvE} {ρ : Ev} {Q : RV → Ev → Prop} {v : U Q} : Wp (eAnd a b ρ) Q v = Wp (a ρ) (fun r ρ1 => oW (bD (res ρ1 r)) (fun c => if c = true then Wp (b ρ1) Q ⟨⟩ else Q (.shr (.bool false)) ρ1) ⟨⟩) ⟨⟩ := by
  refine wp_bind.trans ?_
  refine wp_cg fun r ρ1 => ?_
  rw [asB_]
  cases bD (res ρ1 r) with
  | none => exact wp_bad.trans oW_none.symm
  | some c =>
    rw [oW_some]
    cases c with
    | true => exact if_tt.symm
    | false => exact wp_ok.trans if_ff.symm
theorem wp_or {a b : EvE} {ρ : Ev} {Q : RV → Ev → Prop} {v : U Q} : Wp (eOr a b ρ) Q v = Wp (a ρ) (fun r ρ1 => oW (bD (res ρ1 r)) (fun c => if c = true then Q (.shr (.bool true)) ρ1 else Wp (b ρ1) Q ⟨⟩) ⟨⟩) ⟨⟩ := by
  refine wp_bind.trans ?_
  refine wp_cg fun r ρ1 => ?_
  rw [asB_]
  cases bD (res ρ1 r) with
  | none => exact wp_bad.trans oW_none.symm
  | some c =>
    rw [oW_some]
    cases c with
    | true => exact wp_ok.trans if_tt.symm
    | false => exact if_ff.symm
theorem wp_not {a : EvE} {ρ : Ev} {Q : RV → Ev → Prop} {v : U Q} : Wp (eNot a ρ) Q v = Wp (a ρ) (fun r ρ1 => oW (bD (res ρ1 r)) (fun c => Q (.shr (.bool (!c))) ρ1) ⟨⟩) ⟨⟩ := by
  refine wp_bind.trans ?_
  refine wp_cg fun r ρ1 => ?_
  rw [asB_]
  cases bD (res ρ1 r) with
  | none => exact wp_bad.trans oW_none.symm
  | some c => rw [oW_some]; exact wp_ok
theorem bU_ok {α β : Type} {a : α} {ρ : Ev} {f : α → Ev → Ro β} {u : U f} : bU (.ok a ρ) f u = f a ρ := rfl
theorem wipeE_nil {ρ : Ev} : wipeE ρ [] = ρ := rfl
theorem wipeE_cons {ρ : Ev} {v : Nat} {vs : List Nat} : wipeE ρ (v :: vs) = put (wipeE ρ vs) v .non := rfl
theorem restore_nil {ρ ρ1 : Ev} : restore ρ1 ρ [] = ρ := rfl
theorem restore_cons {ρ ρ1 : Ev} {v : Nat} {vs : List Nat} : restore ρ1 ρ (v :: vs) = put (restore ρ1 ρ vs) v (look ρ1 v) := rfl
theorem wip_nil {ρ : Ev} : ([] : List Nat).all (wipable ρ) = true := rfl
def wipS : Sl → Bool
  | .dat _ .own => false
  | .dat _ .par => false
  | _ => true
theorem wipable_ {ρ : Ev} {i : Nat} : wipable ρ i = wipS (look ρ i) := rfl
theorem wipS_frz {d : PyData} : wipS (.dat d .frz) = true := rfl
theorem wipS_non : wipS .non = true := rfl
theorem wipS_scr {ns : Th} : wipS (.scr ns) = true := rfl
theorem permL_nil {α : Type} {l : List α} : permL l [] = [] := rfl
def permO {α : Type} (o : Option α) (t : List α) : List α := match o with
  | some x => x :: t
  | none => t
theorem permL_cons {α : Type} {l : List α} {r : List Nat} {i : Nat} : permL l (i :: r) = permO (l[i]?) (permL l r) := rfl
theorem permO_ {α : Type} {x : α} {t : List α} : permO (some x) t = x :: t := rfl
theorem ixN_nat {n i : Nat} (h : i < n) : ixN n (i : Int) = some i := by
  unfold ixN
  rw [if_pos (by omega), if_pos (by omega)]; simp
theorem ixN_0 {n : Nat} (h : 0 < n) : ixN n 0 = some 0 := ixN_nat h
theorem ixN_1 {n : Nat} (h : 1 < n) : ixN n 1 = some 1 := ixN_nat h
theorem ixN_2 {n : Nat} (h : 2 < n) : ixN n 2 = some 2 := ixN_nat h
theorem ixN_3 {n : Nat} (h : 3 < n) : ixN n 3 = some 3 := ixN_nat h
end DL

namespace DL
open PySem PySem.Spec PyProof.Rows L2
/-! ### lists of whole numbers as data -/
def iL (l : List Int) : List PyData := l.map .int
theorem iL_nil : iL [] = [] := rfl
theorem iL_cons {a : Int} {l : List Int} : iL (a :: l) = .int a :: iL l := rfl
theorem iL_len (l : List Int) : (iL l).length = l.length := List.length_map _
theorem iL_app {a b : List Int} : iL (a ++ b) = iL a ++ iL b := List.map_append
theorem iL_get {l : List Int} {i : Nat} : (iL l)[i]? = (l[i]?).map .int := List.getElem?_map
theorem lay_ints : ∀ l : List Int, PyData.canLayAll0 (iL l) = true
  | [] => rfl
  | a :: l => by
    show (PyData.canLay0 (.int a) && PyData.canLayAll0 (iL l)) = true
    rw [lay_ints l]; rfl
theorem depth_ints : ∀ l : List Int, PyData.depthAll (iL l) ≤ 1
  | [] => by decide
  | a :: l => by
    have h := depth_ints l
    show max (PyData.depth (.int a)) (PyData.depthAll (iL l)) ≤ 1
    have : PyData.depth (.int a) ≤ 1 := by unfold PyData.depth; decide
    omega
theorem shaped_t (l : List Int) : SeqAt.shaped (.tuple (iL l)) = true := by
  have h := depth_ints l
  unfold SeqAt.shaped
  have h1 : PyData.canLay0 (.tuple (iL l)) = true := lay_ints l
  have h2 : PyData.depth (.tuple (iL l)) ≤ 64 := by unfold PyData.depth; omega
  rw [h1, decide_eq_true h2]; rfl
theorem shaped_l (l : List Int) : SeqAt.shaped (.list (iL l)) = true := by
  have h := depth_ints l
  unfold SeqAt.shaped
  have h1 : PyData.canLay0 (.list (iL l)) = true := lay_ints l
  have h2 : PyData.depth (.list (iL l)) ≤ 64 := by unfold PyData.depth; omega
  rw [h1, decide_eq_true h2]; rfl
theorem shaped_i (i : Int) : SeqAt.shaped (.int i) = true := by
  unfold SeqAt.shaped
  have h1 : PyData.canLay0 (.int i) = true := rfl
  have h2 : PyData.depth (.int i) ≤ 64 := by unfold PyData.depth; decide
  rw [h1, decide_eq_true h2]; rfl
theorem eqvA_ints : ∀ l m : List Int, PyData.eqvAll (iL l) (iL m) = decide (l = m)
  | [], [] => by simp [iL, PyData.eqvAll]
  | a :: l, [] => by simp [iL, PyData.eqvAll]
  | [], b :: m => by simp [iL, PyData.eqvAll]
  | a :: l, b :: m => by
    show (PyData.eqv (.int a) (.int b) && PyData.eqvAll (iL l) (iL m)) = _
    rw [eqvA_ints l m]
    have : PyData.eqv (.int a) (.int b) = (a == b) := rfl
    rw [this]
    by_cases h : a = b
    · subst h; simp
    · simp [h]
theorem eqv_ii (i j : Int) : PyData.eqv (.int i) (.int j) = decide (i = j) := by
  show (i == j) = _
  by_cases h : i = j
  · subst h; simp
  · simp [h]
theorem eqv_tt (l m : List Int) : PyData.eqv (.tuple (iL l)) (.tuple (iL m)) = decide (l = m) := eqvA_ints l m
theorem eqv_ll (l m : List Int) : PyData.eqv (.list (iL l)) (.list (iL m)) = decide (l = m) := eqvA_ints l m
theorem flat_ints : ∀ l : List Int, (iL l).all flatD = true
  | [] => rfl
  | a :: l => flat_ints l
theorem flat_i (i : Int) : flatD (.int i) = true := rfl
theorem inD_ints (i : Int) : ∀ l : List Int, inD (.int i) (iL l) = decide (i ∈ l)
  | [] => by simp [inD, iL]
  | a :: l => by
    show (PyData.eqv (.int a) (.int i) || inD (.int i) (iL l)) = _
    rw [inD_ints i l, eqv_ii]
    by_cases h : a = i
    · subst h; simp
    · simp only [decide_eq_false h, Bool.false_or, List.mem_cons]
      by_cases g : i ∈ l
      · simp [g]
      · have : i ≠ a := fun e => h e.symm
        simp [g, this]
theorem show_ints : ∀ l : List Int, (∀ x ∈ l, PyData.showable (.int x) = true) → PyData.showableAll (iL l) = true
  | [], _ => rfl
  | a :: l, h => by
    show (PyData.showable (.int a) && PyData.showableAll (iL l)) = true
    rw [h a (List.mem_cons_self ..), show_ints l fun x hx => h x (List.mem_cons_of_mem _ hx)]; rfl
theorem dict_ints : ∀ l : List Int, PyData.hasDictAll (iL l) = false
  | [] => rfl
  | a :: l => by
    show (PyData.hasDict (.int a) || PyData.hasDictAll (iL l)) = false
    rw [dict_ints l]; rfl
theorem shB_ints {k : Nat} : ∀ l : List Int, (∀ x ∈ l, bits x ≤ k) → shBA (iL l) ≤ l.length * (k + 4)
  | [], _ => by simp [iL, shBA]
  | a :: l, h => by
    have h1 := shB_ints l fun x hx => h x (List.mem_cons_of_mem _ hx)
    have h2 := h a (List.mem_cons_self ..)
    show shB (.int a) + 2 + shBA (iL l) ≤ (l.length + 1) * (k + 4)
    have h3 : shB (.int a) = bits a + 2 := rfl
    rw [Nat.add_mul]; omega
/-- the numbers from lo on -/
def rO (lo : Int) (n : Nat) : List Int := (List.range n).map fun i : Nat => lo + (i : Int)
theorem intsOf_iL (lo : Int) (n : Nat) : intsOf lo n = iL (rO lo n) := by
  unfold intsOf iL rO
  rw [List.map_map]; rfl
theorem rO_len (lo : Int) (n : Nat) : (rO lo n).length = n := by unfold rO; rw [List.length_map, List.length_range]
theorem rO_mem {lo x : Int} {n : Nat} : x ∈ rO lo n ↔ lo ≤ x ∧ x < lo + n := by
  unfold rO
  rw [List.mem_map]
  constructor
  · rintro ⟨i, hi, rfl⟩
    have := List.mem_range.mp hi
    omega
  · intro h
    exact ⟨(x - lo).toNat, List.mem_range.mpr (by omega), by omega⟩
theorem rO_succ (lo : Int) (n : Nat) : rO lo (n + 1) = rO lo n ++ [lo + (n : Int)] := by
  unfold rO
  rw [List.range_succ, List.map_append]; rfl
theorem rO_zero (lo : Int) : rO lo 0 = [] := rfl
theorem rO_sorted (lo : Int) : ∀ n, (rO lo n).Pairwise (· < ·)
  | 0 => .nil
  | n + 1 => by
    rw [rO_succ, List.pairwise_append]
    refine ⟨rO_sorted lo n, List.pairwise_singleton _ _, fun a ha b hb => ?_⟩
    rw [List.mem_singleton] at hb
    subst hb
    exact (rO_mem.mp ha).2
theorem rO_nodup (lo : Int) (n : Nat) : (rO lo n).Nodup := (rO_sorted lo n).imp fun h => Int.ne_of_lt h
theorem rO_get {lo : Int} {n i : Nat} (h : i < n) : (rO lo n)[i]? = some (lo + (i : Int)) := by
  unfold rO
  rw [List.getElem?_map, List.getElem?_range h]; rfl
theorem iL_filter {p : PyData → Bool} : ∀ {l : List Int}, (iL l).filter p = iL (l.filter fun i => p (.int i))
  | [] => rfl
  | a :: l => by
    show (PyData.int a :: iL l).filter p = _
    rw [List.filter_cons, List.filter_cons, iL_filter (l := l)]
    split <;> rfl
theorem iL_map {f : PyData → PyData} {g : Int → Int} (h : ∀ i, f (.int i) = .int (g i)) : ∀ {l : List Int}, (iL l).map f = iL (l.map g)
  | [] => rfl
  | a :: l => by
    show (f (.int a)) :: (iL l).map f = _
    rw [h, iL_map h (l := l)]; rfl
theorem iL_mem {d : PyData} {l : List Int} (h : d ∈ iL l) : ∃ i, i ∈ l ∧ d = .int i := by
  unfold iL at h
  obtain ⟨i, hi, e⟩ := List.mem_map.mp h
  exact ⟨i, hi, e.symm⟩
/-- picked out of a list in its order -/
theorem sub_filter {l : List Int} : ∀ {r : List Int}, r.Nodup → l.Sublist r → (r.filter fun x => decide (x ∈ l)) = l := by
  intro r
  induction r generalizing l with
  | nil => intro _ h; cases h; rfl
  | cons a r ih =>
    intro nd h
    have nd' := List.nodup_cons.mp nd
    cases h with
    | cons _ h =>
      have : a ∉ l := fun m => nd'.1 (h.subset m)
      rw [List.filter_cons_of_neg (by simp [this]), ih nd'.2 h]
    | cons_cons _ h =>
      rename_i l'
      rw [List.filter_cons_of_pos (by simp)]
      congr 1
      have e : (r.filter fun x => decide (x ∈ a :: l')) = r.filter fun x => decide (x ∈ l') := by
        refine List.filter_congr fun x hx => ?_
        have : x ≠ a := fun e => nd'.1 (e ▸ hx)
        simp [this]
      rw [e, ih nd'.2 h]
/-- twice left out is in again -/
theorem out_out {l r : List Int} (nd : r.Nodup) (h : l.Sublist r) : (r.filter fun x => !decide (x ∈ r.filter fun y => !decide (y ∈ l))) = l := by
  have e : (r.filter fun x => !decide (x ∈ r.filter fun y => !decide (y ∈ l))) = r.filter fun x => decide (x ∈ l) := by
    refine List.filter_congr fun x hx => ?_
    simp only [List.mem_filter]
    by_cases g : x ∈ l <;> simp [g, hx]
  rw [e, sub_filter nd h]
theorem bits_small {x : Int} {k : Nat} (h : Bd k x) : bits x ≤ k := h.bits
theorem repr_t {l : List Int} (h : ∀ x ∈ l, Bd 64 x) (hl : l.length ≤ 200000) : (PyData.tuple (iL l)).showable = true ∧ (PyData.tuple (iL l)).hasDict = false ∧ (PyData.tuple (iL l)).depth ≤ 64 ∧ shB (.tuple (iL l)) ≤ 16777216 := by
  refine ⟨?_, ?_, ?_, ?_⟩
  · show PyData.showableAll (iL l) = true
    refine show_ints l fun x hx => ?_
    have := (h x hx).bits
    unfold bits at this
    show decide (x.natAbs.log2 < 1920) = true
    exact decide_eq_true (by omega)
  · exact dict_ints l
  · have := depth_ints l
    unfold PyData.depth; omega
  · have := shB_ints l fun x hx => (h x hx).bits
    show 3 + shBA (iL l) ≤ 16777216
    omega
/-! texts of numbers are texts -/
theorem strOk_app {a b : Str} (h : PyData.strOk a = true) (g : PyData.strOk b = true) : PyData.strOk (a ++ b) = true := by
  unfold PyData.strOk at *
  show (a.cps ++ b.cps).all _ = true
  rw [Array.all_append, h, g]; rfl
theorem char_lt (c : Char) : c.toNat < 1114112 := by
  have h := c.valid
  have e : c.toNat = c.val.toNat := rfl
  rw [e]
  rcases h with h | h
  · have : c.val.toNat < 55296 := h
    omega
  · exact h.2
theorem strOk_of (s : String) : PyData.strOk (Str.ofString s) = true := by
  rw [Str.ofString_eq_toList]
  unfold PyData.strOk
  rw [Array.all_eq_true]
  intro i hi
  simp only [List.getElem_toArray, List.getElem_map]
  exact decide_eq_true (char_lt _)
theorem strOk_join : ∀ ts : List Str, (∀ t ∈ ts, PyData.strOk t = true) → PyData.strOk (Str.join ", " ts) = true
  | [], _ => by
    show (Array.all #[] fun c => decide (c < 1114112)) = true
    simp
  | [x], h => h x (List.mem_cons_self ..)
  | x :: y :: r, h => strOk_app (strOk_app (h x (List.mem_cons_self ..)) (strOk_of ", ")) (strOk_join (y :: r) fun t ht => h t (List.mem_cons_of_mem _ ht))
theorem shownA_ints : ∀ (l : List Int), ∀ t ∈ PyData.shownAll (iL l), PyData.strOk t = true
  | [], t, h => by cases h
  | a :: l, t, h => by
    have h : t ∈ (PyData.int a).shown :: PyData.shownAll (iL l) := h
    rcases List.mem_cons.mp h with rfl | h
    · exact strOk_of _
    · exact shownA_ints l t h
theorem shown_t_ok (l : List Int) : PyData.strOk (PyData.tuple (iL l)).shown = true := by
  show PyData.strOk (("(" : Str) ++ Str.join ", " (PyData.shownAll (iL l)) ++ Str.ofString (if (PyData.shownAll (iL l)).length == 1 then ",)" else ")")) = true
  exact strOk_app (strOk_app (strOk_of "(") (strOk_join _ (shownA_ints l))) (strOk_of _)
theorem shaped_s {x : Str} (h : PyData.strOk x = true) : SeqAt.shaped (.str x) = true := by
  unfold SeqAt.shaped
  have h1 : PyData.canLay0 (.str x) = true := h
  have h2 : PyData.depth (.str x) ≤ 64 := by unfold PyData.depth; decide
  rw [h1, decide_eq_true h2]; rfl
theorem eqv_ss {x : Str} : PyData.eqv (.str x) (.str x) = true := by
  show (x == x) = true
  exact beq_self_eq_true x
end DL

namespace DL
open PySem PySem.Spec PyProof.Rows L2
/-! ### small tools -/
structure Fr (s : Sl) : Prop where
  st : settable s = true
  wi : wipS s = true
theorem Fr.frz {d : PyData} : Fr (.dat d .frz) := ⟨rfl, rfl⟩
theorem Fr.non : Fr .non := ⟨rfl, rfl⟩
theorem oW_at {α : Type} {l : List α} {i : Int} {Q : α → Prop} {u : U Q} (h0 : 0 ≤ i) (h1 : i < l.length) (k : ∀ (n : Nat) d, i = n → l[n]? = some d → Q d) : oW (atI l i) Q u := by
  obtain ⟨n, rfl⟩ : ∃ n : Nat, i = n := ⟨i.toNat, by omega⟩
  have hn : n < l.length := by omega
  refine ⟨l[n], atI_nat (List.getElem?_eq_getElem hn), k n _ rfl (List.getElem?_eq_getElem hn)⟩
theorem atI_get {α : Type} {l : List α} {i : Int} {d : α} (h0 : 0 ≤ i) (h : l[i.toNat]? = some d) : atI l i = some d := by
  obtain ⟨n, rfl⟩ : ∃ n : Nat, i = n := ⟨i.toNat, by omega⟩
  exact atI_nat h
theorem atI_last {α : Type} {l : List α} {i : Int} {d : α} (hi : i = -1) (h : l[l.length - 1]? = some d) (hl : 0 < l.length) : atI l i = some d := by
  subst hi
  unfold atI ixN
  rw [if_neg (by decide), if_pos (by omega)]
  have e : (-1 + (l.length : Int)).toNat = l.length - 1 := by omega
  rw [Option.bind_some, e, h]
theorem Bd.u64 {i : Int} (h0 : 0 ≤ i) (h : i < 18446744073709551616) : Bd 64 i := Bd.of h0 (by simpa using h)
theorem Bd.abs {k : Nat} {i : Int} (h : Bd k i) : Bd k (if i < 0 then -i else i) := by
  unfold Bd at *
  split <;> omega
theorem Bd.ite01 {c : Prop} [Decidable c] : Bd 1 (if c then 1 else 0) := by
  unfold Bd
  split <;> decide
theorem nn01 {c : Prop} [Decidable c] : 0 ≤ (if c then (1 : Int) else 0) := by split <;> decide
theorem Bd.nat {k n : Nat} (h : n < 2 ^ k) : Bd k (n : Int) := by unfold Bd; rw [Int.natAbs_natCast]; exact h
/-! ### Pascal's triangle -/
def ch : Nat → Nat → Nat
  | _, 0 => 1
  | 0, _ + 1 => 0
  | n + 1, k + 1 => ch n k + ch n (k + 1)
theorem ch_0 (n : Nat) : ch n 0 = 1 := by cases n <;> rfl
theorem ch_ss (n k : Nat) : ch (n + 1) (k + 1) = ch n k + ch n (k + 1) := rfl
theorem ch_over : ∀ {n k : Nat}, n < k → ch n k = 0
  | 0, k + 1, _ => rfl
  | n + 1, k + 1, h => by rw [ch_ss, ch_over (show n < k by omega), ch_over (show n < k + 1 by omega)]
theorem ch_self : ∀ n, ch n n = 1
  | 0 => rfl
  | n + 1 => by rw [ch_ss, ch_self n, ch_over (Nat.lt_succ_self n)]
theorem ch_succ : ∀ n k : Nat, (n + 1) * ch n k = ch (n + 1) (k + 1) * (k + 1)
  | 0, 0 => rfl
  | 0, k + 1 => by rw [ch_ss, ch_over (show 0 < k + 1 by omega), ch_over (show 0 < k + 1 + 1 by omega)]; simp
  | n + 1, 0 => by
    have h := ch_succ n 0
    rw [ch_0] at h
    rw [ch_ss, ch_0]
    simp at h ⊢
    omega
  | n + 1, k + 1 => by
    have h1 := ch_succ n k
    have h2 := ch_succ n (k + 1)
    have e : ch (n + 1) (k + 1) = ch n k + ch n (k + 1) := rfl
    have e1 : (n + 1 + 1) * ch (n + 1) (k + 1) = (n + 1) * ch n k + (n + 1) * ch n (k + 1) + ch (n + 1) (k + 1) := by
      rw [Nat.add_mul (n + 1) 1, Nat.one_mul, ← Nat.mul_add, ← e]
    have e2 : ch (n + 1 + 1) (k + 1 + 1) * (k + 1 + 1) = ch (n + 1) (k + 1) * (k + 1) + ch (n + 1) (k + 1) + ch (n + 1) (k + 1 + 1) * (k + 1 + 1) := by
      rw [ch_ss (n + 1) (k + 1), Nat.add_mul, Nat.mul_add (ch (n + 1) (k + 1)) (k + 1) 1, Nat.mul_one]
    omega
theorem ch_step {n k : Nat} (h : k ≤ n) : ch n (k + 1) * (k + 1) = ch n k * (n - k) := by
  have h1 := ch_succ n k
  have e0 : ch (n + 1) (k + 1) * (k + 1) = ch n k * (k + 1) + ch n (k + 1) * (k + 1) := by rw [ch_ss, Nat.add_mul]
  have e1 : ch n k * (n - k) + ch n k * (k + 1) = (n + 1) * ch n k := by
    rw [← Nat.mul_add, Nat.mul_comm (n + 1)]
    congr 1; omega
  omega
theorem ch_symm : ∀ (n a b : Nat), a + b = n → ch n a = ch n b
  | 0, a, b, h => by
    have h1 : a = 0 := by omega
    have h2 : b = 0 := by omega
    rw [h1, h2]
  | n + 1, 0, b, h => by
    have : b = n + 1 := by omega
    rw [this, ch_0, ch_self]
  | n + 1, a + 1, 0, h => by
    have : a + 1 = n + 1 := by omega
    rw [this, ch_0, ch_self]
  | n + 1, a + 1, b + 1, h => by
    rw [ch_ss, ch_ss, ch_symm n a (b + 1) (by omega), ch_symm n (a + 1) b (by omega), Nat.add_comm]
theorem ch_le : ∀ n k : Nat, ch n k ≤ 2 ^ n
  | n, 0 => by rw [ch_0]; exact Nat.one_le_two_pow
  | 0, k + 1 => by rw [ch_over (Nat.succ_pos k)]; exact Nat.zero_le _
  | n + 1, k + 1 => by
    rw [ch_ss, Nat.pow_succ]
    have := ch_le n k
    have := ch_le n (k + 1)
    omega
theorem ch_pos : ∀ {n k : Nat}, k ≤ n → 0 < ch n k
  | n, 0, _ => by rw [ch_0]; decide
  | n + 1, k + 1, h => by rw [ch_ss]; exact Nat.add_pos_left (ch_pos (show k ≤ n by omega)) _
theorem ch_bd (n k : Nat) : Bd (n + 1) (ch n k : Int) := Bd.nat (Nat.lt_of_le_of_lt (ch_le n k) (Nat.pow_lt_pow_right (by decide) (Nat.lt_succ_self n)))
theorem ch_bd' {n k m : Nat} (h : n < m) : Bd m (ch n k : Int) := (ch_bd n k).mono h
/-! the script's comparison -/
theorem wp_scrCmp {i : Nat} {neg : Bool} {e : EvE} {ρ : Ev} {Q : RV → Ev → Prop} {v : U Q} : Wp (eScrCmp i neg e ρ) Q v = oW (scN (look ρ i)) (fun _ => Wp (e ρ) (fun r ρ1 => oW (scN (look ρ1 i)) (fun ns => oW (res ρ1 r) (fun d => SeqAt.shaped d = true ∧ Q (.shr (.bool (if neg then !PyData.eqv (.list (iL ns)) d else PyData.eqv (.list (iL ns)) d))) ρ1) ⟨⟩) ⟨⟩) ⟨⟩) ⟨⟩ := by
  unfold eScrCmp
  cases h : look ρ i with
  | non => exact wp_bad.trans oW_none.symm
  | dat _ _ => exact wp_bad.trans oW_none.symm
  | scr ns =>
    rcases ns with ns | x | _
    rotate_left 1
    · exact wp_bad.trans oW_none.symm
    · exact wp_bad.trans oW_none.symm
    rw [scN_, oW_some]
    refine wp_bind.trans (wp_cg fun r ρ1 => ?_)
    cases look ρ1 i with
    | non => exact wp_bad.trans oW_none.symm
    | dat _ _ => exact wp_bad.trans oW_none.symm
    | scr ns =>
      rcases ns with ns | x | _
      rotate_left 1
      · exact wp_bad.trans oW_none.symm
      · exact wp_bad.trans oW_none.symm
      rw [scN_, oW_some]
      cases res ρ1 r with
      | none => exact wp_bad.trans oW_none.symm
      | some d =>
        rw [oW_some]
        show Wp (if SeqAt.shaped (.list (iL ns)) = true ∧ SeqAt.shaped d = true then Ro.ok (RV.shr (.bool (if neg then !PyData.eqv (.list (iL ns)) d else PyData.eqv (.list (iL ns)) d))) ρ1 else .bad) Q ⟨⟩ = _
        rw [wp_if, wp_bad, if_F, wp_ok, shaped_l]
        simp only [true_and]
theorem eqv_l0 {ns : List Int} : PyData.eqv (.list (iL ns)) (.list []) = decide (ns = []) := eqv_ll ns []
theorem shaped_l0 : SeqAt.shaped (.list []) = true := shaped_l []
theorem shaped_t0 : SeqAt.shaped (.tuple []) = true := shaped_t []
/-- one statement, then the others -/
theorem seq_split {s r : EvS} {ρ : Ev} {Q : Fl → Ev → Prop} {v : U Q} (P : Ev → Prop) (h1 : Wp (s ρ) (fun f ρ1 => f = .nx ∧ P ρ1) ⟨⟩) (h2 : ∀ ρ1, P ρ1 → Wp (r ρ1) Q ⟨⟩) : Wp (sSeq s r ρ) Q v := by
  rw [sSeq_, wp_bind]
  refine h1.mono fun f ρ1 h => ?_
  rw [h.1, goOn_nx]
  exact h2 ρ1 h.2
theorem show_i {i : Int} (h : Bd 1000 i) : (PyData.int i).showable = true ∧ (PyData.int i).hasDict = false ∧ (PyData.int i).depth ≤ 64 ∧ shB (.int i) ≤ 16777216 := by
  have hb := h.bits
  refine ⟨?_, rfl, ?_, ?_⟩
  · show decide (i.natAbs.log2 < 1920) = true
    unfold bits at hb
    exact decide_eq_true (by omega)
  · unfold PyData.depth; decide
  · show bits i + 2 ≤ 16777216
    omega
theorem shown_i_ok (i : Int) : PyData.strOk (PyData.int i).shown = true := strOk_of _
theorem law_of {m : FnD} (h : ∀ ns : List Int, ns.length ≤ 63 → Wp (m [.scr (.nums ns)]) (fun r _ => r = .shr (.bool true)) ⟨⟩) : ∀ ns : List Int, ns.length ≤ 63 → (∀ m ∈ ns, bits m ≤ 1048576) → ∃ ρ, m [.scr (.nums ns)] = .ok (.shr (.bool true)) ρ := by
  intro ns hl _
  obtain ⟨r, ρ, e, rfl⟩ := h ns hl
  exact ⟨ρ, e⟩
end DL

namespace DL
open PySem PySem.Spec PyProof.Rows L2
section
variable {X : Cx} {G : Gm} {W : Wi} {Z Z' : Ow} {B A A1 A2 A0 : Nat → Option Addr} {σ σ1 : L2.St} {H H1 H2 H0 : Hp} {ρ ρ1 ρ2 : Ev} {Q : VK} {v : V} {r : RV}
/-! ### list(range(a, b)), tuple(range(a, b)) -/
def gLR2 : G2
  | .int i, .int j => if okRg i j = true then .new (intsOf i (j - i).toNat) else .bad
  | _, _ => .bad
def gTR2 : G2
  | .int i, .int j => if okRg i j = true then .val (.tuple (intsOf i (j - i).toNat)) else .bad
  | _, _ => .bad
theorem lr2_S : Op2S (fun x y H Q => ∃ i j, x = .int i ∧ y = .int j ∧ RgOk i j ∧ ∀ q, H q = none → Q (.ref q) (upd H q (.lst (rgV i j)))) gLR2 := by
  intro O H x y dx dy Q hO hx hy h
  cases dx <;> cases dy <;> try exact False.elim h
  rename_i i j
  by_cases hl : okRg i j = true
  · simp only [gLR2, if_pos hl] at h
    exact ⟨i, j, hx, hy, okRg_ok hl, fun q hq => h q _ H _ (.refl _) hq (.new hq) upd_same (rgV_fz i j)⟩
  · simp only [gLR2, if_neg hl] at h; exact h.elim
theorem tr2_S : Op2S (fun x y H Q => ∃ i j, x = .int i ∧ y = .int j ∧ RgOk i j ∧ NewT H (rgV i j) Q) gTR2 := by
  intro O H x y dx dy Q hO hx hy h
  cases dx <;> cases dy <;> try exact False.elim h
  rename_i i j
  by_cases hl : okRg i j = true
  · simp only [gTR2, if_pos hl] at h
    exact ⟨i, j, hx, hy, okRg_ok hl, fun q o hq ho => h _ _ (.new hq) (.newT ho hO hq (rgV_fz i j))⟩
  · simp only [gTR2, if_neg hl] at h; exact h.elim
section
variable {a b : Expr} {ea eb : EvE} {p p2 pos pos2 : Pos}
theorem de_listRg2 (hc : X.calm = true) (hg : Gl X "list") (hm : X.mg "list" = none) (hg2 : Gl X "range") (hm2 : X.mg "range" = none) (ha : DE X G W a ea) (hb : DE X G W b eb)
    (na : starEach [a, b] X.env = (false, eval a X.env) :: starEach [b] X.env := by rfl) (nb : starEach [b] X.env = (false, eval b X.env) :: starEach [] X.env := by rfl) (hp : (backTo pos2 (starEach [b] X.env)).any (·.1) = false := by rfl)
    (nc : starEach [.Call (.Name "range" p2) [a, b] [] pos2] X.env = (false, eval (.Call (.Name "range" p2) [a, b] [] pos2) X.env) :: starEach [] X.env := by rfl) : DE X G W (.Call (.Name "list" p) [.Call (.Name "range" p2) [a, b] [] pos2] [] pos) (eOp gLR2 ea eb) :=
  ⟨PE_imp (pe_listRg hc hg hm (prg_2 hg2 hm2 ha.pe hb.pe na nb hp) nc) fun σ H Q ⟨Z, B, ρ, A, R, d⟩ => op2_ok lr2_S d R⟩
theorem de_tupleRg2 (hc : X.calm = true) (hg : Gl X "tuple") (hm : X.mg "tuple" = none) (hg2 : Gl X "range") (hm2 : X.mg "range" = none) (ha : DE X G W a ea) (hb : DE X G W b eb)
    (na : starEach [a, b] X.env = (false, eval a X.env) :: starEach [b] X.env := by rfl) (nb : starEach [b] X.env = (false, eval b X.env) :: starEach [] X.env := by rfl) (hp : (backTo pos2 (starEach [b] X.env)).any (·.1) = false := by rfl)
    (nc : starEach [.Call (.Name "range" p2) [a, b] [] pos2] X.env = (false, eval (.Call (.Name "range" p2) [a, b] [] pos2) X.env) :: starEach [] X.env := by rfl) : DE X G W (.Call (.Name "tuple" p) [.Call (.Name "range" p2) [a, b] [] pos2] [] pos) (eOp gTR2 ea eb) :=
  ⟨PE_imp (pe_tupRgT hc hg hm (prg_2 hg2 hm2 ha.pe hb.pe na nb hp) nc) fun σ H Q ⟨Z, B, ρ, A, R, d⟩ => op2_ok tr2_S d R⟩
end
/-! ### any, all, sum -/
def boolsOf : List PyData → Option (List Bool)
  | [] => some []
  | .bool b :: r => (boolsOf r).map (b :: ·)
  | _ :: _ => none
def intsIn : List PyData → Option (List Int)
  | [] => some []
  | .int b :: r => (intsIn r).map (b :: ·)
  | _ :: _ => none
theorem bools_fz {O : Ow} : ∀ {ds : List PyData} {bs : List Bool} {xs : List V}, boolsOf ds = some bs → FzA O H xs ds → xs = bs.map V.bl
  | [], bs, xs, e, f => by cases e; cases f; rfl
  | d :: ds, bs, xs, e, f => by
    cases f with
    | cons g h =>
      cases d with
      | bool b =>
        unfold boolsOf at e
        cases q : boolsOf ds with
        | none => rw [q] at e; cases e
        | some cs =>
          rw [q] at e; cases e
          cases g
          rw [bools_fz q h]; rfl
      | _ => cases e
theorem ints_fz {O : Ow} : ∀ {ds : List PyData} {bs : List Int} {xs : List V}, intsIn ds = some bs → FzA O H xs ds → xs = bs.map V.int
  | [], bs, xs, e, f => by cases e; cases f; rfl
  | d :: ds, bs, xs, e, f => by
    cases f with
    | cons g h =>
      cases d with
      | int b =>
        unfold intsIn at e
        cases q : intsIn ds with
        | none => rw [q] at e; cases e
        | some cs =>
          rw [q] at e; cases e
          cases g
          rw [ints_fz q h]; rfl
      | _ => cases e
def boolPR (f : List Bool → PyData) : Option (List Bool) → PR
  | some bs => .val (f bs)
  | none => .bad
def intPR (f : List Int → PR) : Option (List Int) → PR
  | some bs => f bs
  | none => .bad
def gAny : GN
  | [.list ds] => boolPR (fun bs => .bool (bs.any id)) (boolsOf ds)
  | _ => .bad
def gAll : GN
  | [.list ds] => boolPR (fun bs => .bool (bs.all id)) (boolsOf ds)
  | _ => .bad
def gSum : GN
  | [.list ds] => intPR (fun ns => .val (.int ns.sum)) (intsIn ds)
  | _ => .bad
theorem call_anyS {K : PySem.W.Frag} : CallS (rAny K) gAny := by
  intro O H xs ds Q hO hv h
  match ds, hv, h with
  | [.list ds], hv, h =>
    obtain ⟨x, rfl, p, ys, rfl, e1, f1⟩ := hv.one
    cases e : boolsOf ds with
    | none => simp only [gAny, e] at h; exact h.elim
    | some bs =>
      simp only [gAny, e] at h
      have := bools_fz e f1
      subst this
      exact ⟨p, bs, rfl, .of e1, h _ H (.refl _) (.bl _)⟩
  | [], _, h => exact h.elim
  | [.none], _, h => exact h.elim
  | [.bool _], _, h => exact h.elim
  | [.int _], _, h => exact h.elim
  | [.str _], _, h => exact h.elim
  | [.tuple _], _, h => exact h.elim
  | [.dict _], _, h => exact h.elim
  | d :: _ :: _, _, h => cases d <;> exact h.elim
theorem call_allS {K : PySem.W.Frag} : CallS (rAll K) gAll := by
  intro O H xs ds Q hO hv h
  match ds, hv, h with
  | [.list ds], hv, h =>
    obtain ⟨x, rfl, p, ys, rfl, e1, f1⟩ := hv.one
    cases e : boolsOf ds with
    | none => simp only [gAll, e] at h; exact h.elim
    | some bs =>
      simp only [gAll, e] at h
      have := bools_fz e f1
      subst this
      exact ⟨p, bs, rfl, .of e1, h _ H (.refl _) (.bl _)⟩
  | [], _, h => exact h.elim
  | [.none], _, h => exact h.elim
  | [.bool _], _, h => exact h.elim
  | [.int _], _, h => exact h.elim
  | [.str _], _, h => exact h.elim
  | [.tuple _], _, h => exact h.elim
  | [.dict _], _, h => exact h.elim
  | d :: _ :: _, _, h => cases d <;> exact h.elim
theorem call_sumS {K : PySem.W.Frag} : CallS (rSum K) gSum := by
  intro O H xs ds Q hO hv h
  match ds, hv, h with
  | [.list ds], hv, h =>
    obtain ⟨x, rfl, p, ys, rfl, e1, f1⟩ := hv.one
    cases e : intsIn ds with
    | none => simp only [gSum, e] at h; exact h.elim
    | some bs =>
      simp only [gSum, e] at h
      have := ints_fz e f1
      subst this
      exact ⟨p, bs, rfl, .of e1, h _ H (.refl _) (.int _)⟩
  | [], _, h => exact h.elim
  | [.none], _, h => exact h.elim
  | [.bool _], _, h => exact h.elim
  | [.int _], _, h => exact h.elim
  | [.str _], _, h => exact h.elim
  | [.tuple _], _, h => exact h.elim
  | [.dict _], _, h => exact h.elim
  | d :: _ :: _, _, h => cases d <;> exact h.elim
/-! ### slices -/
abbrev EvO := Ev → Ro (Option Int)
def pP (G : Gm) (Z : Ow) (B : Nat → Option Addr) (σ : L2.St) (Q : Option Int → Hp → Prop) : PF (Option Int) := fun H A o ρ' => ∀ H' A', Rep G Z B σ H' ρ' A' → Evo A H A' H' → Q o H'
theorem shift_P {Q : Option Int → Hp → Prop} : Shifts (pP G Z B σ Q) := fun H A H1 A1 r ρ x h H' A' R y => h H' A' R (x.trans y)
def dP (G : Gm) (W : Wi) (ev : EvO) : TO := fun σ H Q => ∃ Z B ρ A, Rep G Z B σ H ρ A ∧ Done G W Z B σ (pP G Z B σ Q) H A (ev ρ)
structure DP (X : Cx) (G : Gm) (W : Wi) (e : Option Expr) (ev : EvO) : Prop where
  po : PO X e (dP G W ev)
theorem PO_imp {e : Option Expr} {t t' : TO} (h : PO X e t) (i : ∀ σ H Q, t' σ H Q → t σ H Q) : PO X e t' := ⟨fun pins s σ H Q I q => h.run pins s σ H Q I (i σ H Q q)⟩
def oNone : EvO := fun ρ => .ok none ρ
def intO (ρ : Ev) : Option PyData → Ro (Option Int)
  | some (.int i) => .ok (some i) ρ
  | _ => .bad
def oSome (a : EvE) : EvO := fun ρ => (a ρ).bind fun r ρ1 => intO ρ1 (res ρ1 r)
theorem do_none : DP X G W none oNone := ⟨PO_imp po_none fun σ H Q ⟨Z, B, ρ, A, R, d⟩ => d H A R .refl⟩
theorem do_some {e : Expr} {ea : EvE} (ha : DE X G W e ea) : DP X G W (some e) (oSome ea) :=
  ⟨PO_imp (po_some ha.pe) fun σ H Q ⟨Z, B, ρ, A, R, d⟩ => dE_bind shift_P R d fun r1 ρ1 v H1 A1 R1 x1 f1 d1 => by
    cases e : res ρ1 r1 with
    | none => rw [e] at d1; exact d1.elim
    | some c =>
      rw [e] at d1
      have g := f1.vw R1 e
      cases c with
      | int j => exact ⟨j, g, d1 H1 A1 R1 .refl⟩
      | _ => exact d1.elim⟩
def cutD (xs : List PyData) (lo hi : Option Int) : List PyData := (xs.drop (HT.sIx xs.length 0 lo)).take (HT.sIx xs.length xs.length hi - HT.sIx xs.length 0 lo)
theorem cut_fz {O : Ow} {xs : List V} {ds : List PyData} (f : FzA O H xs ds) (lo hi : Option Int) : FzA O H (cutV xs lo hi) (cutD ds lo hi) := by
  unfold cutV cutD
  rw [f.len]
  exact (f.drop _).take _
def gSl : PyData → Option Int → Option Int → PR
  | .list ds, lo, hi => .new (cutD ds lo hi)
  | .tuple ds, lo, hi => .val (.tuple (cutD ds lo hi))
  | _, _, _ => .bad
def slPR (lo hi : Option Int) : Option PyData → PR
  | some d => gSl d lo hi
  | none => .bad
def eSl (a : EvE) (lo hi : EvO) : EvE := fun ρ => (a ρ).bind fun r ρ1 => (lo ρ1).bind fun l ρ2 => (hi ρ2).bind fun h ρ3 => (slPR l h (res ρ3 r)).out ρ3
theorem dP_bind {α : Type} {P : PF α} (sh : Shifts P) {ev : EvO} {k : Option Int → Ev → Ro α} {Q' : Option Int → Hp → Prop} (R : Rep G Z B σ H ρ A) (d : Done G W Z B σ P H A ((ev ρ).bind k))
    (h : ∀ o ρ1 H1 A1, Rep G Z B σ H1 ρ1 A1 → Evo A H A1 H1 → Done G W Z B σ P H1 A1 (k o ρ1) → Q' o H1) : dP G W ev σ H Q' := by
  refine ⟨Z, B, ρ, A, R, ?_⟩
  cases e : ev ρ with
  | ok rs ρ1 =>
    rw [e] at d
    exact fun H' A' R' x => h rs ρ1 H' A' R' x (d.shift sh x)
  | exc y ρ1 =>
    rw [e] at d
    exact d
  | bad =>
    rw [e] at d
    exact d.elim
def rSlX (K : PySem.W.Frag) : V → Option Int → Option Int → Hp → VK → Prop := fun x lo hi H Q => rSlL K x lo hi H Q ∨ rSlN K x lo hi H Q
theorem sl_slS {K : PySem.W.Frag} {O : Ow} {H : Hp} {x : V} {dx : PyData} {lo hi : Option Int} {Q : VK} (hO : ∀ a, O a → H a ≠ none) (hx : Vw O H x dx) (h : PRS O H Q (gSl dx lo hi)) : rSlX K x lo hi H Q := by
  cases dx with
  | list ds =>
    obtain ⟨a, xs, rfl, e, f⟩ := hx
    exact .inl ⟨a, xs, rfl, .of e, fun p hp => h p _ H _ (.refl _) hp (.new hp) upd_same (cut_fz f lo hi)⟩
  | tuple ds =>
    obtain ⟨a, xs, rfl, e, n, f⟩ := hx
    refine .inr ⟨a, xs, rfl, e.sq, fun w => ?_, fun _ p o hp ho => h _ _ (.new hp) (.newT ho hO hp (cut_fz f lo hi))⟩
    have : cutD ds lo hi = ds := by
      unfold cutD
      rw [f.len] at w
      rw [w.1, w.2, Nat.sub_zero, List.drop_zero, List.take_length]
    refine h _ H (.refl _) ?_
    show Fz O H (.ref a) (.tuple (cutD ds lo hi))
    rw [this]
    exact .tup e n f
  | _ => exact h.elim
theorem de_slice {e : Expr} {ea : EvE} {lo hi : Option Expr} {l h : EvO} {p pos : Pos} (ha : DE X G W e ea) (hl : DP X G W lo l) (hh : DP X G W hi h) : DE X G W (.Subscript e (.Slice lo hi none p) pos) (eSl ea l h) :=
  ⟨PE_imp (pe_slice (sl_list.or sl_tupN) ha.pe hl.po hh.po) fun σ H Q ⟨Z, B, ρ, A, R, d⟩ => dE_bind shift_E R d fun r1 ρ1 v H1 A1 R1 x1 f1 d1 => dP_bind shift_E R1 d1 fun o1 ρ2 H2 A2 R2 x2 d2 => dP_bind shift_E R2 d2 fun o2 ρ3 H3 A3 R3 x3 d3 => by
    have f3 := (f1.evo x2).evo x3
    cases e : res ρ3 r1 with
    | none => rw [e] at d3; exact d3.elim
    | some c =>
      rw [e] at d3
      exact sl_slS R3.oin (f3.vw R3 e) (prs_fin R3 d3)⟩
/-! ### chains -/
def chS (g : G2) (c : EvE) (s : RV) (ρ : Ev) : Option PyData → Ro RV
  | some (.bool true) => (c ρ).bind fun w ρ3 => (p2 g ρ3 s w).out ρ3
  | some (.bool false) => .ok (.shr (.bool false)) ρ
  | _ => .bad
def prD : PR → Option PyData
  | .val d => some d
  | _ => none
def eChain (g g2 : G2) (a b c : EvE) : EvE := fun ρ => (a ρ).bind fun r ρ1 => (b ρ1).bind fun s ρ2 => chS g2 c s ρ2 (prD (p2 g ρ2 r s))
theorem chain_ok {op op' : R2} {g g2 : G2} (hs : Op2S op g) (hs2 : Op2S op' g2) {a b c : EvE} (d : Done G W Z B σ (pE G Z B σ Q) H A (eChain g g2 a b c ρ)) (R : Rep G Z B σ H ρ A) : tChain op op' (dE G W a) (dE G W b) (dE G W c) σ H Q := by
  refine dE_bind shift_E R d fun r1 ρ1 v H1 A1 R1 x1 f1 d1 => ?_
  refine dE_bind shift_E R1 d1 fun r2 ρ2 u H2 A2 R2 x2 f2 d2 => ?_
  have f1' := f1.evo x2
  unfold p2 at d2
  cases e1 : res ρ2 r1 with
  | none => rw [e1] at d2; exact d2.elim
  | some dx =>
    cases e2 : res ρ2 r2 with
    | none => rw [e1, e2] at d2; exact d2.elim
    | some dy =>
      rw [e1, e2] at d2
      simp only at d2
      cases e3 : g dx dy with
      | bad => rw [e3] at d2; exact d2.elim
      | new _ => rw [e3] at d2; exact d2.elim
      | val z =>
        rw [e3] at d2
        refine hs _ H2 v u dx dy _ R2.oin (f1'.vw R2 e1) (f2.vw R2 e2) ?_
        rw [e3]
        intro w H' x f
        cases z with
        | bool k =>
          cases f
          refine ⟨k, rfl, ?_⟩
          have R2' := R2.ext x
          have d2' := d2.shift shift_E (.ext x)
          cases k with
          | false =>
            rw [if_neg (by decide)]
            exact d2' _ H' A2 R2' .refl (.bl false)
          | true =>
            rw [if_pos rfl]
            refine dE_bind shift_E R2' d2' fun r3 ρ3 w3 H3 A3 R3 x3 f3 d3 => ?_
            have f2' := (f2.evo (.ext x)).evo x3
            unfold p2 at d3
            cases e4 : res ρ3 r2 with
            | none => rw [e4] at d3; exact d3.elim
            | some dy' =>
              cases e5 : res ρ3 r3 with
              | none => rw [e4, e5] at d3; exact d3.elim
              | some dz =>
                rw [e4, e5] at d3
                exact hs2 _ H3 u w3 dy' dz Q R3.oin (f2'.vw R3 e4) (f3.vw R3 e5) (prs_fin R3 d3)
        | _ => exact d2.elim
section
variable {op op' : CmpOp} {r r' : R2} {g g2 : G2} {a b c : Expr} {ea eb ec : EvE} {pos : Pos}
theorem de_chain (ho : OpR X (compareOp op) r) (hs : Op2S r g) (ho' : OpR X (compareOp op') r') (hs2 : Op2S r' g2) (ha : DE X G W a ea) (hb : DE X G W b eb) (hc : DE X G W c ec) (hm : lastMarks [op, op'] [b, c] = false := by with_unfolding_all rfl) :
    DE X G W (.Compare a [op, op'] [b, c] pos) (eChain g g2 ea eb ec) := ⟨PE_imp (pe_chain ho ho' ha.pe hb.pe hc.pe hm) fun σ H Q ⟨Z, B, ρ, A, R, d⟩ => chain_ok hs hs2 d R⟩
theorem dt_chain (ho : OpR X (compareOp op) r) (hs : Op2S r g) (ho' : OpR X (compareOp op') r') (hs2 : Op2S r' g2) (ha : DE X G W a ea) (hb : DE X G W b eb) (hc : DE X G W c ec) (hm : lastMarks [op, op'] [b, c] = false := by with_unfolding_all rfl) :
    DT X G W (.Compare a [op, op'] [b, c] pos) (tV (eChain g g2 ea eb ec)) := ⟨PT_imp (pt_chain ho ho' ha.pe hb.pe hc.pe hm) fun σ H Q ⟨Z, B, ρ, A, R, d⟩ => by
    obtain ⟨Z', B', ρ', A', R', d'⟩ := tv_ok R d
    exact chain_ok hs hs2 d' R'⟩
end
end
/-! ### how they are reckoned -/
theorem oNone_ {ρ : Ev} : oNone ρ = .ok none ρ := rfl
theorem oSome_ {a : EvE} {ρ : Ev} : oSome a ρ = (a ρ).bind fun r ρ1 => intO ρ1 (res ρ1 r) := rfl
theorem intO_ {ρ : Ev} {i : Int} : intO ρ (some (.int i)) = .ok (some i) ρ := rfl
theorem eSl_ {a : EvE} {lo hi : EvO} {ρ : Ev} : eSl a lo hi ρ = (a ρ).bind fun r ρ1 => (lo ρ1).bind fun l ρ2 => (hi ρ2).bind fun h ρ3 => (slPR l h (res ρ3 r)).out ρ3 := rfl
theorem slPR_ {lo hi : Option Int} {d : PyData} : slPR lo hi (some d) = gSl d lo hi := rfl
theorem gSl_l {lo hi : Option Int} {ds : List PyData} : gSl (.list ds) lo hi = .new (cutD ds lo hi) := rfl
theorem gSl_t {lo hi : Option Int} {ds : List PyData} : gSl (.tuple ds) lo hi = .val (.tuple (cutD ds lo hi)) := rfl
theorem eChain_ {g g2 : G2} {a b c : EvE} {ρ : Ev} : eChain g g2 a b c ρ = (a ρ).bind fun r ρ1 => (b ρ1).bind fun s ρ2 => chS g2 c s ρ2 (prD (p2 g ρ2 r s)) := rfl
theorem prD_ {d : PyData} : prD (.val d) = some d := rfl
theorem chS_ {g : G2} {c : EvE} {s : RV} {ρ : Ev} {b : Bool} : chS g c s ρ (some (.bool b)) = if b = true then (c ρ).bind fun w ρ3 => (p2 g ρ3 s w).out ρ3 else .ok (.shr (.bool false)) ρ := by cases b <;> rfl
theorem o_LR2 {i j : Int} : gLR2 (.int i) (.int j) = if okRg i j = true then .new (intsOf i (j - i).toNat) else .bad := rfl
theorem o_TR2 {i j : Int} : gTR2 (.int i) (.int j) = if okRg i j = true then .val (.tuple (intsOf i (j - i).toNat)) else .bad := rfl
theorem o_any {ds : List PyData} : gAny [.list ds] = boolPR (fun bs => .bool (bs.any id)) (boolsOf ds) := rfl
theorem o_all {ds : List PyData} : gAll [.list ds] = boolPR (fun bs => .bool (bs.all id)) (boolsOf ds) := rfl
theorem o_sum {ds : List PyData} : gSum [.list ds] = intPR (fun ns => .val (.int ns.sum)) (intsIn ds) := rfl
theorem boolPR_ {f : List Bool → PyData} {bs : List Bool} : boolPR f (some bs) = .val (f bs) := rfl
theorem intPR_ {f : List Int → PR} {bs : List Int} : intPR f (some bs) = f bs := rfl
def bL (l : List Bool) : List PyData := l.map .bool
theorem bL_nil : bL [] = [] := rfl
theorem bL_len (l : List Bool) : (bL l).length = l.length := List.length_map _
theorem boolsOf_bL : ∀ l : List Bool, boolsOf (bL l) = some l
  | [] => rfl
  | b :: l => by
    show (boolsOf (bL l)).map (b :: ·) = _
    rw [boolsOf_bL l]; rfl
theorem intsIn_iL : ∀ l : List Int, intsIn (iL l) = some l
  | [] => rfl
  | b :: l => by
    show (intsIn (iL l)).map (b :: ·) = _
    rw [intsIn_iL l]; rfl
theorem okRg_of {i j : Int} (h1 : -4611686018427387904 ≤ i) (h2 : i < 4611686018427387904) (h3 : -4611686018427387904 ≤ j) (h4 : j < 4611686018427387904) (h5 : j - i ≤ 16777216) : okRg i j = true := by
  unfold okRg rlim lim
  exact decide_eq_true ⟨h1, h2, h3, h4, by omega⟩
theorem cutD_to {l : List PyData} {n : Int} (h0 : 0 ≤ n) : cutD l none (some n) = l.take n.toNat := by
  unfold cutD
  rw [HT.sIx_none]
  have e : HT.sIx l.length l.length (some n) = min n.toNat l.length := by
    unfold HT.sIx
    simp only
    rw [if_neg (by omega)]
  rw [e, List.drop_zero, Nat.sub_zero]
  by_cases h : n.toNat ≤ l.length
  · rw [Nat.min_eq_left h]
  · rw [Nat.min_eq_right (by omega), List.take_length, List.take_of_length_le (by omega)]
theorem cutD_from {l : List PyData} {n : Int} (h0 : 0 ≤ n) : cutD l (some n) none = l.drop n.toNat := by
  unfold cutD
  rw [HT.sIx_none]
  have e : HT.sIx l.length 0 (some n) = min n.toNat l.length := by
    unfold HT.sIx
    simp only
    rw [if_neg (by omega)]
  rw [e]
  by_cases h : n.toNat ≤ l.length
  · rw [Nat.min_eq_left h, List.take_of_length_le (by rw [List.length_drop]; omega)]
  · rw [Nat.min_eq_right (by omega), List.drop_length, List.take_nil, List.drop_eq_nil_of_le (by omega)]
theorem iL_take {l : List Int} {n : Nat} : (iL l).take n = iL (l.take n) := by unfold iL; rw [List.map_take]
theorem iL_drop {l : List Int} {n : Nat} : (iL l).drop n = iL (l.drop n) := by unfold iL; rw [List.map_drop]
/-- a comprehension without an if -/
theorem lcW_map {g : EvG} {e : EvE} {vs : List Nat} {Q : List PyData → Ev → Prop} (f : PyData → PyData) (its : List PyData) {ρ : Ev} {u : U Q}
    (step : ∀ d, d ∈ its → gW g d ρ (fun ρ1 => lcS tTrue e vs ρ1 (fun _ => False) (fun x ρ' => x = f d ∧ ρ' = ρ)) ⟨⟩)
    (fin : Q (its.map f) ρ) : lcW g tTrue e vs its ρ Q u := by
  refine lcW_pure (fun _ => true) f its (fun d hd => (step d hd).mono fun ρ1 h => h.mono (fun _ h => h.elim) fun x ρ' ⟨h1, h2⟩ => ⟨rfl, h1, h2⟩) ?_
  have : ∀ l : List PyData, l.filter (fun _ => true) = l := fun l => by simp
  rw [this]
  exact fin
/-- one over numbers -/
theorem lcW_ints {g : EvG} {e : EvE} {vs : List Nat} {Q : List PyData → Ev → Prop} (f : Int → PyData) {lo : Int} {n : Nat} {ρ : Ev} {u : U Q}
    (step : ∀ i, lo ≤ i → i < lo + n → gW g (.int i) ρ (fun ρ1 => lcS tTrue e vs ρ1 (fun _ => False) (fun x ρ' => x = f i ∧ ρ' = ρ)) ⟨⟩)
    (fin : Q ((rO lo n).map f) ρ) : lcW g tTrue e vs (intsOf lo n) ρ Q u := by
  refine lcW_map (fun d => match d with
    | .int i => f i
    | _ => .none) _ (fun d hd => ?_) ?_
  · rw [intsOf_iL] at hd
    obtain ⟨i, hi, rfl⟩ := iL_mem hd
    have := rO_mem.mp hi
    exact step i this.1 this.2
  · rw [intsOf_iL]
    unfold iL
    rw [List.map_map]
    exact fin
theorem map_iL {f : Int → PyData} {l : List Int} {g : Int → Int} (h : ∀ i, i ∈ l → f i = .int (g i)) : l.map f = iL (l.map g) := by
  unfold iL
  rw [List.map_map]
  exact List.map_congr_left h
def kO (r : EvA) (ρ : Ev) : RV → Ro (List RV)
  | .var _ => .bad
  | x => (r ρ).bind fun xs ρ2 => .ok (x :: xs) ρ2
theorem eConsO_k {a : EvE} {r : EvA} {ρ : Ev} : eConsO a r ρ = (a ρ).bind fun x ρ1 => kO r ρ1 x := by
  show (a ρ).bind _ = _
  congr 1
theorem kO_shr {r : EvA} {ρ : Ev} {d : PyData} : kO r ρ (.shr d) = (r ρ).bind fun xs ρ2 => .ok (.shr d :: xs) ρ2 := rfl
theorem kO_tmp {r : EvA} {ρ : Ev} {d : PyData} : kO r ρ (.tmp d) = (r ρ).bind fun xs ρ2 => .ok (.tmp d :: xs) ρ2 := rfl
end DL

namespace DL
open PySem PySem.Spec PyProof.Rows L2
section
variable {X : Cx} {G : Gm} {W : Wi} {Z Z' : Ow} {B A A1 A2 A0 : Nat → Option Addr} {σ σ1 : L2.St} {H H1 H2 H0 : Hp} {ρ ρ1 ρ2 : Ev} {Q : VK} {v : V} {r : RV}
/-! ### isinstance with one built-in class -/
def tyN : PyData → String
  | .none => "NoneType"
  | .bool _ => "bool"
  | .int _ => "int"
  | .str _ => "str"
  | .list _ => "list"
  | .tuple _ => "tuple"
  | .dict _ => "dict"
def gIsi (T : String) : G1 := fun d => match kitB (tyN d) T with
  | some b => .val (.bool b)
  | none => .bad
/-- how isinstance looks at x -/
def KitP (X : Cx) (H : Hp) (x : V) (t : Value) : Prop := ∀ (pins : List (Addr × Obj)) (σ : L2.St) (s : Shared) (u : Value), Inv X pins σ H s → RelV x u → ∃ P : Heap → Prop, PySem.W.KitX X.K u t P ∧ P s.heap ∧ u ≠ .builtin "__main__.__loader__#opaque"
theorem kitp_ty {X : Cx} {H : Hp} {x : V} {t : Value} (h : TyX X.K H x t) : KitP X H x t := fun _ _ _ _ I r => kit_of I r h
theorem vw_kit {X : Cx} {O : Ow} {d : PyData} (h : Vw O H v d) : KitP X H v (.type (tyN d)) := by
  cases d with
  | none => have h : v = .non := h; subst h; exact kitp_ty (.base .non)
  | bool b => have h : v = .bl b := h; subst h; exact kitp_ty (.base (.bl b))
  | int i => have h : v = .int i := h; subst h; exact kitp_ty (.base (.int i))
  | str x => have h : v = .str x := h; subst h; exact kitp_ty (.base (.str x))
  | list ds => obtain ⟨a, xs, rfl, e, _⟩ := h; exact kitp_ty (.base (.lst e))
  | tuple ds => obtain ⟨a, xs, rfl, ⟨o, e, _⟩, _⟩ := h; exact kitp_ty (.fTuple e)
  | dict _ =>
    obtain ⟨a, o, ks, vs, rfl, e, ⟨es, ep, ex, _⟩, _⟩ := h
    exact fun pins σ s u I r => by
      cases (show u = Value.ref a from r)
      exact ⟨_, PySem.W.kitx_dict, ⟨o, xo_at I.hok e, ex.1⟩, fun z => nomatch z⟩
def rIsiP (X : Cx) : List V → Hp → VK → Prop := fun xs H Q => ∃ (x c : V) (t u : Value) (b : Bool), xs = [x, c] ∧ ClsV c u ∧ KitP X H x t ∧ PySem.W.kitOne X.K t u = some b ∧ Q (.bl b) H
def rIsiTP (X : Cx) : List V → Hp → VK → Prop := fun xs H Q => ∃ (x : V) (tp : Addr) (cs : List V) (t : Value) (us : List Value) (b : Bool), xs = [x, .ref tp] ∧ H tp = some (.tup cs) ∧ Paired ClsV cs us ∧ KitP X H x t ∧ PySem.W.kitAny X.K t us = some b ∧ Q (.bl b) H
theorem call_isiP : CallR X (.builtin "isinstance") (rIsiP X) := by
  intro pins s σ H xs us Q I r h
  obtain ⟨x, c, t, u, b, rfl, k, ty, e, q⟩ := h
  obtain ⟨u1, u2, rfl, r1, r2⟩ := vals2 r
  have e2 := k.eq r2
  subst e2
  obtain ⟨P, Z, p, hx⟩ := ty _ _ _ _ I r1
  exact PySem.W.kia_one Z I.kIn p e hx fun tk => ⟨.bl b, H, I.tok tk, rfl, q⟩
theorem call_isiTP : CallR X (.builtin "isinstance") (rIsiTP X) := by
  intro pins s σ H xs us Q I r h
  obtain ⟨x, tp, cs, t, ws, b, rfl, hT, k, ty, e, q⟩ := h
  obtain ⟨u1, u2, rfl, r1, r2⟩ := vals2 r
  cases (show u2 = Value.ref tp from r2)
  obtain ⟨P, Z, p, hx⟩ := ty _ _ _ _ I r1
  obtain ⟨_, its, rv, o, h1, h2, n, h3⟩ := (show ObjOk X.prog X.w H s.heap tp (.tup cs) from I.hok tp _ hT)
  have e3 := ClsV.all k rv
  subst e3
  obtain ⟨oc, od, dt, sl⟩ := o
  simp only at h2 h3
  subst h2 h3
  exact PySem.W.kia_tup Z I.kIn p h1 e hx fun tk => ⟨.bl b, H, I.tok tk, rfl, q⟩
theorem de_isi {T : Str} {Ts : String} {e : Expr} {ea : EvE} {p tp pos : Pos} (hg : Gl X "isinstance") (hm : X.mg "isinstance" = none) (hg2 : Gl X T) (hm2 : X.mg T = none) (hT : bootBuiltins T = some (.type Ts)) (ha : DE X G W e ea) (hn : T ≠ "__name__" := by decide) (hdb : (T == ("__debug__" : Str)) = false := by decide)
    (he : starEach [e, .Name T tp] X.env = (false, eval e X.env) :: starEach [.Name T tp] X.env := by rfl) (he2 : starEach [.Name T tp] X.env = (false, eval (.Name T tp) X.env) :: starEach [] X.env := by rfl)
    (hpl : (backTo pos (starEach [.Name T tp] X.env)).any (·.1) = false := by rfl) : DE X G W (.Call (.Name "isinstance" p) [e, .Name T tp] [] pos) (eUn (gIsi Ts) ea) :=
  ⟨PE_imp (pe_callB call_isiP hg hm PyProof.Rows.boot_isinstance (pa_cons ha.pe (pa_cons (pe_bltn (v := .ty Ts) hg2 hm2 hT rfl hn hdb) pa_nil he2) he) (by decide) (by decide) he hpl) fun σ H Q ⟨Z, B, ρ, A, R, d⟩ => by
    refine dE_bind shift_E R d fun r1 ρ1 v H1 A1 R1 x1 f1 d1 => ?_
    unfold p1 at d1
    cases e1 : res ρ1 r1 with
    | none => rw [e1] at d1; exact d1.elim
    | some dx =>
      rw [e1] at d1
      cases e : kitB (tyN dx) Ts with
      | none => simp only [gIsi, e] at d1; exact d1.elim
      | some b =>
        simp only [gIsi, e] at d1
        exact ⟨v, .ty Ts, .type (tyN dx), .type Ts, b, rfl, .ty Ts, vw_kit (f1.vw R1 e1), kit_ty e, prs_fin R1 d1 _ H1 (.refl _) (.bl b)⟩⟩
/-! ### xs.index(x) -/
def ixD (ds : List PyData) (d : PyData) : Option Nat := ds.findIdx? fun z => PyData.eqv z d
def natPR : Option Nat → PR
  | some j => .val (.int j)
  | none => .bad
/-- of a list -/
def gIndexL : G2
  | .list ds, d => if SeqAt.shaped (.list ds) = true ∧ SeqAt.shaped d = true then natPR (ixD ds d) else .bad
  | _, _ => .bad
/-- of a tuple of whole numbers -/
def gIndexT : G2
  | .tuple ds, .int i => intPR (fun ns => if i ∈ ns then .val (.int (ns.idxOf i : Nat)) else .bad) (intsIn ds)
  | _, _ => .bad
def isL : PyData → Bool
  | .list _ => true
  | _ => false
def isT : PyData → Bool
  | .tuple _ => true
  | _ => false
def kOf (k : PyData → Bool) : Option PyData → Bool
  | some d => k d
  | none => false
/-- a method of a value whose kind is known -/
def eMe (k : PyData → Bool) (g : G2) (a b : EvE) : EvE := fun ρ => (a ρ).bind fun r ρ1 => if kOf k (res ρ1 r) = true then (b ρ1).bind fun s ρ2 => (p2 g ρ2 r s).out ρ2 else .bad
theorem me_ok {k : PyData → Bool} {rr : R2} {g : G2} {a b : EvE} {ty : V → Hp → Prop} (hk : ∀ O H x d, Vw O H x d → k d = true → ty x H) (hs : Op2S rr g) (d : Done G W Z B σ (pE G Z B σ Q) H A (eMe k g a b ρ)) (R : Rep G Z B σ H ρ A) :
    dE G W a σ H fun x H1 => ty x H1 ∧ dE G W b σ H1 fun y H2 => rr x y H2 Q := by
  refine dE_bind shift_E R d fun r1 ρ1 v H1 A1 R1 x1 f1 d1 => ?_
  by_cases hl : kOf k (res ρ1 r1) = true
  · simp only [if_pos hl] at d1
    have hv : ty v H1 := by
      cases e1 : res ρ1 r1 with
      | none => rw [e1] at hl; cases hl
      | some dx => rw [e1] at hl; exact hk _ H1 v dx (f1.vw R1 e1) hl
    refine ⟨hv, dE_bind shift_E R1 d1 fun r2 ρ2 u H2 A2 R2 x2 f2 d2 => ?_⟩
    have f1' := f1.evo x2
    unfold p2 at d2
    cases e1 : res ρ2 r1 with
    | none => rw [e1] at d2; exact d2.elim
    | some dx =>
      cases e2 : res ρ2 r2 with
      | none => rw [e1, e2] at d2; exact d2.elim
      | some dy =>
        rw [e1, e2] at d2
        exact hs _ H2 v u dx dy Q R2.oin (f1'.vw R2 e1) (f2.vw R2 e2) (prs_fin R2 d2)
  · simp only [if_neg hl] at d1; exact d1.elim
theorem ixL_S {K : PySem.W.Frag} : Op2S (fun x y H Q => rIndexD K x [y] H Q) gIndexL := by
  intro O H x y dx dy Q hO hx hy h
  cases dx with
  | list ds =>
    by_cases hl : SeqAt.shaped (.list ds) = true ∧ SeqAt.shaped dy = true
    · simp only [gIndexL, if_pos hl] at h
      obtain ⟨a, xs, rfl, e, f⟩ := hx
      cases q : ixD ds dy with
      | none => rw [q] at h; exact h.elim
      | some j =>
        rw [q] at h
        obtain ⟨hj, h1, h2⟩ := List.findIdx?_eq_some_iff_getElem.mp q
        refine ⟨a, y, dy, ds, j, ds[j], rfl, rfl, .lst (.of e) (FzA.dp (by simpa [PyData.hasDict] using PyData.hasDict_of_canLay _ (SeqAt.canLay_of_shaped hl.1)) f), hy.dp (PyData.hasDict_of_canLay _ (SeqAt.canLay_of_shaped hl.2)), hl.1, hl.2, List.getElem?_eq_getElem hj, h1, fun m z hm hz => ?_, h _ H (.refl _) (.int _)⟩
        obtain ⟨hm2, rfl⟩ := List.getElem?_eq_some_iff.mp hz
        have := h2 m hm
        simpa using this
    · simp only [gIndexL, if_neg hl] at h; exact h.elim
  | none => exact h.elim
  | bool _ => exact h.elim
  | int _ => exact h.elim
  | str _ => exact h.elim
  | tuple _ => exact h.elim
  | dict _ => exact h.elim
theorem ixT_S {K : PySem.W.Frag} : Op2S (fun x y H Q => rIxT K x [y] H Q) gIndexT := by
  intro O H x y dx dy Q hO hx hy h
  cases dx with
  | tuple ds =>
    cases dy with
    | int i =>
      cases q : intsIn ds with
      | none => simp only [gIndexT, q] at h; exact h.elim
      | some ns =>
        simp only [gIndexT, q, intPR] at h
        by_cases hi : i ∈ ns
        · simp only [if_pos hi] at h
          obtain ⟨a, xs, rfl, e, _, f⟩ := hx
          have := ints_fz q f
          subst this
          have hy : y = .int i := hy
          subst hy
          exact ⟨a, ns, i, rfl, rfl, e, hi, h _ H (.refl _) (.int _)⟩
        · simp only [if_neg hi] at h; exact h.elim
    | none => exact h.elim
    | bool _ => exact h.elim
    | str _ => exact h.elim
    | list _ => exact h.elim
    | tuple _ => exact h.elim
    | dict _ => exact h.elim
  | none => exact h.elim
  | bool _ => exact h.elim
  | int _ => exact h.elim
  | str _ => exact h.elim
  | list _ => exact h.elim
  | dict _ => exact h.elim
theorem ty_T : TyOk X "tuple" (fun x H => tyT H x) := fun pins σ H s x v I r ty => by
  obtain ⟨a, xs, rfl, o, e, d⟩ := ty
  obtain rfl : v = Value.ref a := r
  obtain ⟨h1, _, its, _, o2, h2, h3, _⟩ := (show ObjOk X.prog X.w H s.heap a (.frz o (.tup xs)) from I.hok a _ e)
  refine ⟨⟨o2, h2, h3⟩, fun b eb => ?_⟩
  cases eb
  exact ⟨o, h1, d⟩
section
variable {o e : Expr} {eo ee : EvE} {apos cpos : Pos}
theorem de_indexL (hu : X.A.units + 65 < cLine) (ho : DE X G W o eo) (ha : DE X G W e ee) (hne : starEach [e] X.env = (false, eval e X.env) :: starEach [] X.env := by rfl)
    (hbase : attributeBase o "index" X.env (eval o X.env) = eval o X.env := by rfl)
    (hfew : ((backTo cpos (starEach [e] X.env)).all (fun x => !x.1) && (backToKw cpos (keywordEach [] X.env)).all (fun x => x.1.isSome)
      && decide ([e].length + ([] : List Keyword).length + (if ([] : List Keyword).isEmpty then 0 else 1) < 30)) = true := by rfl)
    (hline : (apos.endLine == cpos.line) = true := by rfl) (hpl : (backTo cpos (starEach [] X.env)).any (·.1) = false := by rfl) : DE X G W (.Call (.Attribute o "index" apos) [e] [] cpos) (eMe isL gIndexL eo ee) :=
  ⟨PE_imp (pe_bm PySem.F.plainAttrs_list PySem.F.slot_list_index PySem.F.type_list_index (mt_indexD hu) ho.pe (pa_cons ha.pe pa_nil hne) hbase hfew hline hne hpl) fun σ H Q ⟨Z, B, ρ, A, R, d⟩ =>
    me_ok (ty := fun x H => tyV X.K "list" x H) (fun O H x d hv hk => by
      cases d with
      | list ds => obtain ⟨a, xs, rfl, e, _⟩ := hv; exact .inl ⟨rfl, xs, .of e⟩
      | _ => cases hk) (ixL_S (K := X.K)) d R⟩
theorem de_indexT (ho : DE X G W o eo) (ha : DE X G W e ee) (hne : starEach [e] X.env = (false, eval e X.env) :: starEach [] X.env := by rfl)
    (hbase : attributeBase o "index" X.env (eval o X.env) = eval o X.env := by rfl)
    (hfew : ((backTo cpos (starEach [e] X.env)).all (fun x => !x.1) && (backToKw cpos (keywordEach [] X.env)).all (fun x => x.1.isSome)
      && decide ([e].length + ([] : List Keyword).length + (if ([] : List Keyword).isEmpty then 0 else 1) < 30)) = true := by rfl)
    (hline : (apos.endLine == cpos.line) = true := by rfl) (hpl : (backTo cpos (starEach [] X.env)).any (·.1) = false := by rfl) : DE X G W (.Call (.Attribute o "index" apos) [e] [] cpos) (eMe isT gIndexT eo ee) :=
  ⟨PE_imp (pe_mG ty_T PySem.F.plainAttrs_tuple PySem.F.slot_tuple_index PySem.F.type_tuple_index mt_ixT ho.pe (pa_cons ha.pe pa_nil hne) hbase hfew hline hne hpl) fun σ H Q ⟨Z, B, ρ, A, R, d⟩ =>
    me_ok (ty := fun x H => tyT H x) (fun O H x d hv hk => by
      cases d with
      | tuple ds => obtain ⟨a, xs, rfl, e, _⟩ := hv; exact ⟨a, xs, rfl, e⟩
      | _ => cases hk) (ixT_S (K := X.K)) d R⟩
end
theorem ds_doc {x : Str} {j p pos} : DS X G W (.Expr (.Constant (.str x) j p) pos) (sEx (eC (.str x))) := ds_expr de_str
end
/-! ### how they are reckoned -/
def bPR : Option Bool → PR
  | some b => .val (.bool b)
  | none => .bad
theorem o_isi {T : String} {d : PyData} : gIsi T d = bPR (kitB (tyN d) T) := by
  unfold gIsi bPR
  cases kitB (tyN d) T <;> rfl
theorem bPR_ {b : Bool} : bPR (some b) = .val (.bool b) := rfl
theorem tyN_none : tyN .none = "NoneType" := rfl
theorem tyN_bool {b : Bool} : tyN (.bool b) = "bool" := rfl
theorem tyN_int {b : Int} : tyN (.int b) = "int" := rfl
theorem tyN_str {b : Str} : tyN (.str b) = "str" := rfl
theorem tyN_list {b : List PyData} : tyN (.list b) = "list" := rfl
theorem tyN_tuple {b : List PyData} : tyN (.tuple b) = "tuple" := rfl
theorem tyN_dict {b : List (PyData × PyData)} : tyN (.dict b) = "dict" := rfl
theorem eMe_ {k : PyData → Bool} {g : G2} {a b : EvE} {ρ : Ev} : eMe k g a b ρ = (a ρ).bind fun r ρ1 => if kOf k (res ρ1 r) = true then (b ρ1).bind fun s ρ2 => (p2 g ρ2 r s).out ρ2 else .bad := rfl
theorem kOf_ {k : PyData → Bool} {d : PyData} : kOf k (some d) = k d := rfl
theorem isL_l {ds : List PyData} : isL (.list ds) = true := rfl
theorem isT_t {ds : List PyData} : isT (.tuple ds) = true := rfl
theorem o_ixL {ds : List PyData} {d : PyData} : gIndexL (.list ds) d = if SeqAt.shaped (.list ds) = true ∧ SeqAt.shaped d = true then natPR (ixD ds d) else .bad := rfl
theorem o_ixT {ds : List PyData} {i : Int} : gIndexT (.tuple ds) (.int i) = intPR (fun ns => if i ∈ ns then .val (.int (ns.idxOf i : Nat)) else .bad) (intsIn ds) := rfl
theorem natPR_ {j : Nat} : natPR (some j) = .val (.int j) := rfl
theorem kit_NoneType_int : kitB "NoneType" "int" = some false := by decide +kernel
theorem kit_NoneType_bool : kitB "NoneType" "bool" = some false := by decide +kernel
theorem kit_NoneType_tuple : kitB "NoneType" "tuple" = some false := by decide +kernel
theorem kit_NoneType_list : kitB "NoneType" "list" = some false := by decide +kernel
theorem kit_NoneType_str : kitB "NoneType" "str" = some false := by decide +kernel
theorem kit_NoneType_dict : kitB "NoneType" "dict" = some false := by decide +kernel
theorem kit_bool_int : kitB "bool" "int" = some true := by decide +kernel
theorem kit_bool_bool : kitB "bool" "bool" = some true := by decide +kernel
theorem kit_bool_tuple : kitB "bool" "tuple" = some false := by decide +kernel
theorem kit_bool_list : kitB "bool" "list" = some false := by decide +kernel
theorem kit_bool_str : kitB "bool" "str" = some false := by decide +kernel
theorem kit_bool_dict : kitB "bool" "dict" = some false := by decide +kernel
theorem kit_int_int : kitB "int" "int" = some true := by decide +kernel
theorem kit_int_bool : kitB "int" "bool" = some false := by decide +kernel
theorem kit_int_tuple : kitB "int" "tuple" = some false := by decide +kernel
theorem kit_int_list : kitB "int" "list" = some false := by decide +kernel
theorem kit_int_str : kitB "int" "str" = some false := by decide +kernel
theorem kit_int_dict : kitB "int" "dict" = some false := by decide +kernel
theorem kit_str_int : kitB "str" "int" = some false := by decide +kernel
theorem kit_str_bool : kitB "str" "bool" = some false := by decide +kernel
theorem kit_str_tuple : kitB "str" "tuple" = some false := by decide +kernel
theorem kit_str_list : kitB "str" "list" = some false := by decide +kernel
theorem kit_str_str : kitB "str" "str" = some true := by decide +kernel
theorem kit_str_dict : kitB "str" "dict" = some false := by decide +kernel
theorem kit_list_int : kitB "list" "int" = some false := by decide +kernel
theorem kit_list_bool : kitB "list" "bool" = some false := by decide +kernel
theorem kit_list_tuple : kitB "list" "tuple" = some false := by decide +kernel
theorem kit_list_list : kitB "list" "list" = some true := by decide +kernel
theorem kit_list_str : kitB "list" "str" = some false := by decide +kernel
theorem kit_list_dict : kitB "list" "dict" = some false := by decide +kernel
theorem kit_tuple_int : kitB "tuple" "int" = some false := by decide +kernel
theorem kit_tuple_bool : kitB "tuple" "bool" = some false := by decide +kernel
theorem kit_tuple_tuple : kitB "tuple" "tuple" = some true := by decide +kernel
theorem kit_tuple_list : kitB "tuple" "list" = some false := by decide +kernel
theorem kit_tuple_str : kitB "tuple" "str" = some false := by decide +kernel
theorem kit_tuple_dict : kitB "tuple" "dict" = some false := by decide +kernel
theorem kit_dict_int : kitB "dict" "int" = some false := by decide +kernel
theorem kit_dict_bool : kitB "dict" "bool" = some false := by decide +kernel
theorem kit_dict_tuple : kitB "dict" "tuple" = some false := by decide +kernel
theorem kit_dict_list : kitB "dict" "list" = some false := by decide +kernel
theorem kit_dict_str : kitB "dict" "str" = some false := by decide +kernel
theorem kit_dict_dict : kitB "dict" "dict" = some true := by decide +kernel
end DL

namespace DL
open PySem PySem.Spec PyProof.Rows L2
/-! ### sorted(xs), whole numbers -/
def insI (x : Int) : List Int → List Int
  | [] => [x]
  | y :: l => if x ≤ y then x :: y :: l else y :: insI x l
def sortI : List Int → List Int
  | [] => []
  | x :: l => insI x (sortI l)
theorem insI_perm (x : Int) : ∀ l, (insI x l).Perm (x :: l)
  | [] => .refl _
  | y :: l => by
    unfold insI
    split
    · exact .refl _
    · exact ((insI_perm x l).cons y).trans (.swap x y l)
theorem sortI_perm : ∀ l, (sortI l).Perm l
  | [] => .refl _
  | x :: l => (insI_perm x (sortI l)).trans ((sortI_perm l).cons x)
theorem insI_sorted (x : Int) : ∀ l : List Int, l.Pairwise (· ≤ ·) → (insI x l).Pairwise (· ≤ ·)
  | [], _ => List.pairwise_singleton _ _
  | y :: l, h => by
    have h' := List.pairwise_cons.mp h
    unfold insI
    split
    · rename_i q
      refine List.pairwise_cons.mpr ⟨fun z hz => ?_, h⟩
      rcases List.mem_cons.mp hz with rfl | hz
      · exact q
      · exact Int.le_trans q (h'.1 z hz)
    · rename_i q
      refine List.pairwise_cons.mpr ⟨fun z hz => ?_, insI_sorted x l h'.2⟩
      rcases List.mem_cons.mp ((insI_perm x l).mem_iff.mp hz) with rfl | hz
      · omega
      · exact h'.1 z hz
theorem sortI_sorted : ∀ l, (sortI l).Pairwise (· ≤ ·)
  | [] => .nil
  | x :: l => insI_sorted x _ (sortI_sorted l)
theorem sorted_uniq : ∀ {l m : List Int}, l.Perm m → l.Pairwise (· ≤ ·) → m.Pairwise (· ≤ ·) → l = m
  | [], m, p, _, _ => (List.nil_perm.mp p).symm
  | a :: l, [], p, _, _ => by have := p.length_eq; simp at this
  | a :: l, b :: m, p, h, g => by
    have h' := List.pairwise_cons.mp h
    have g' := List.pairwise_cons.mp g
    have e : a = b := by
      have h1 : a ∈ b :: m := p.mem_iff.mp (List.mem_cons_self ..)
      have h2 : b ∈ a :: l := p.mem_iff.mpr (List.mem_cons_self ..)
      rcases List.mem_cons.mp h1 with e | h1
      · exact e
      · rcases List.mem_cons.mp h2 with e | h2
        · exact e.symm
        · have := h'.1 b h2
          have := g'.1 a h1
          omega
    subst e
    rw [sorted_uniq (List.Perm.cons_inv p) h'.2 g'.2]
theorem sortI_eq {l m : List Int} (p : m.Perm l) (h : m.Pairwise (· ≤ ·)) : sortI l = m := sorted_uniq ((sortI_perm l).trans p.symm) (sortI_sorted l) h
theorem fz_ints {O : Ow} {H : Hp} : ∀ l : List Int, FzA O H (l.map V.int) (iL l)
  | [] => .nil
  | a :: l => .cons (.int a) (fz_ints l)
/-- sorted(..) of a list or a tuple, by any order -/
theorem sorted_seq {prog : Program} {w : World} {A : Around} {E : Value → Shared → Prop} {s : Shared} {p : Addr} {T : String} {o : Obj} {vs : List Value} {n : Nat} {ltv : Value → Value → Bool} {Q : Value → Shared → Prop} (O : SrtO.Swo ltv)
    (hT : T = "list" ∨ T = "tuple") (ho : s.heap.get? p = some o) (hc : o.cls = .type T) (hd : o.data = .seq vs.toArray n) (hz : vs.length ≤ sizeLine)
    (hS : 2 ≤ vs.length → ∀ (h₁ : Heap) (a : Addr), h₁.get? a = some (seqObj "list" vs.toArray 0) → (∀ b o, s.heap.get? b = some o → b ≠ a ∧ h₁.get? b = some o) → SrtO.SortableO prog w A.in1.in1 { s with heap := h₁ } a vs ltv)
    (h : ∀ (out : List Value) (h1 h' : Heap), (∀ b u, s.heap.get? b = some u → h1.get? b = some u) → (∀ b u, h1.get? b = some u → h'.get? b = some u) → (∃ e, h'.get? h1.objs.size = some (seqObj "list" out.toArray e)) → SrtO.Srtd ltv out → SrtO.Stb ltv out vs → Q (.ref h1.objs.size) { s with heap := h' }) :
    wpAny (model prog w) A (call (.builtin "sorted") [.ref p]) Q E s := by
  refine Calls.call_function_entry kind_sorted plain_sorted entry_sorted (args_sorted1 _) ?_
  unfold Builtin.«sorted»
  refine wpAny_bind (m := checkCount "sorted" 1 1 _) (wpAny_pure ?_)
  refine wpAny_bind (wpAny_collect_seq p hT ho hc hd (fun h1 k1 => ?_) (by rw [List.size_toArray]; exact hz))
  have et : vs.toArray.toList = vs := by simp
  rw [et]
  refine wpAny_bind (wpAny_newList ?_ hz)
  have at_ : (h1.push (seqObj "list" vs.toArray 0)).get? h1.objs.size = some (seqObj "list" vs.toArray 0) := Heap.get?_push_size _ rfl
  have old : ∀ b u, h1.get? b = some u → b ≠ h1.objs.size ∧ (h1.push (seqObj "list" vs.toArray 0)).get? b = some u := fun b u e => ⟨Nat.ne_of_lt (Heap.lt_size e), Heap.get?_push_of_some _ e⟩
  show wpAny _ _ _ _ _ { s with heap := h1.push (seqObj "list" vs.toArray 0) }
  refine wpAny_bind (wpAny_holding (wpAny_call_entry slot_list_sort ⟨_, at_, rfl⟩ entry_list_sort ?_ (args_list_sort _)))
  refine SrtO.list_sort_ord O at_ hz (fun h2 => hS h2 _ _ at_ fun b u e => old b u (k1 b u e)) fun out hs hb => ⟨_, rfl, wpAny_pure ⟨_, rfl, ?_⟩⟩
  refine h out h1 _ k1 (fun b u e => ?_) (sortedHeap_at at_) hs hb
  rw [sortedHeap_old (old b u e).1 (Heap.lt_size (old b u e).2)]
  exact (old b u e).2
/-- sorted(xs), whole numbers in a list or a tuple -/
def rSortI2 (K : PySem.W.Frag) : List V → Hp → VK → Prop := fun vs H Q => ∃ (a : Addr) (ns : List Int), vs = [V.ref a] ∧ (SqL K H a (ns.map V.int) ∨ SqT K H a (ns.map V.int)) ∧
  ∀ (ns' : List Int) (p : Addr), ns'.Perm ns → ns'.Pairwise (· ≤ ·) → H p = none → Q (.ref p) (upd H p (.lst (ns'.map V.int)))
theorem cr_sortI2 {X : Cx} : CallR X (.builtin "sorted") (rSortI2 X.K) := fun pins s σ H vs us Q I r h => by
  obtain ⟨a, ns, rfl, hs, q⟩ := h
  rw [Vals.ref1 r]
  have key : ∀ (its : List Value) (T : String) (o : Obj) (n : Nat), (T = "list" ∨ T = "tuple") → Vals (ns.map V.int) its → s.heap.get? a = some o → o.cls = .type T → o.data = .seq its.toArray n → (ns.map V.int).length ≤ sizeLine →
      wpAny (model X.prog X.w) X.A (call (.builtin "sorted") [.ref a]) (EP X pins σ Q) X.xe s := by
    intro its T o n hT rv ho hc hd hz
    have hi := rv.ints
    refine sorted_seq SrtO.swo_int hT ho hc hd (by rw [← rv.length]; exact hz) (fun h2 h₁ a' _ _ => SrtO.ints_sortable hi h2) fun out h1 h' k1 k2 at_ hs hb => ?_
    obtain ⟨j1, j2, j3⟩ := SrtO.ints_out hi hs hb
    obtain ⟨e, he⟩ := at_
    have I1 : Inv X pins σ H { s with heap := h1 } := I.kept (t' := s.toks) k1
    have hlen : ((out.map SrtO.iv).map V.int).length ≤ sizeLine := by
      rw [List.length_map, j2.length_eq]
      rw [List.length_map] at hz
      exact hz
    have I2 := I1.laid (a := h1.objs.size) (o := .lst ((out.map SrtO.iv).map V.int)) (h' := h') (t' := s.toks) k2 (Nat.le_refl _) ⟨hlen, out, e, vals_of_ints j1, he⟩
    exact ⟨.ref h1.objs.size, _, I2, rfl, q _ _ j2 j3 (I1.hok.fresh (Nat.le_refl _))⟩
  rcases hs with hs | hs
  · obtain ⟨its, rv, ⟨o, n, ho, hc, _, hd⟩, hz⟩ := I.list hs
    exact key its "list" o n (.inl rfl) rv ho hc hd hz
  · obtain ⟨its, rv, ⟨o, ho, hc, n, hd⟩, hz⟩ := I.tuple hs
    exact key its "tuple" o n (.inr rfl) rv ho hc hd hz
def gSorted : GN
  | [.list ds] => intPR (fun ns => .new (iL (sortI ns))) (intsIn ds)
  | [.tuple ds] => intPR (fun ns => .new (iL (sortI ns))) (intsIn ds)
  | _ => .bad
theorem sort_fin {K : PySem.W.Frag} {O : Ow} {H : Hp} {p : Addr} {ys : List V} {ds : List PyData} {Q : VK} (hs : SqL K H p ys ∨ SqT K H p ys) (f1 : FzA O H ys ds) (h : PRS O H Q (intPR (fun ns => .new (iL (sortI ns))) (intsIn ds))) : rSortI2 K [.ref p] H Q := by
  cases e : intsIn ds with
  | none => rw [e] at h; exact h.elim
  | some bs =>
    rw [e] at h
    have := ints_fz e f1
    subst this
    refine ⟨p, bs, rfl, hs, fun ns' q hp hs hq => ?_⟩
    have e2 := sortI_eq hp hs
    have h : PRS O H Q (.new (iL (sortI bs))) := h
    rw [e2] at h
    exact h q _ H _ (.refl _) hq (.new hq) upd_same (fz_ints ns')
theorem call_sortedS {K : PySem.W.Frag} : CallS (rSortI2 K) gSorted := by
  intro O H xs ds Q hO hv h
  match ds, hv, h with
  | [.list ds], hv, h =>
    obtain ⟨x, rfl, p, ys, rfl, e1, f1⟩ := hv.one
    exact sort_fin (.inl (.of e1)) f1 h
  | [.tuple ds], hv, h =>
    obtain ⟨x, rfl, p, ys, rfl, e1, _, f1⟩ := hv.one
    exact sort_fin (.inr e1.sq) f1 h
  | [], _, h => exact h.elim
  | [.none], _, h => exact h.elim
  | [.bool _], _, h => exact h.elim
  | [.int _], _, h => exact h.elim
  | [.str _], _, h => exact h.elim
  | [.dict _], _, h => exact h.elim
  | d :: _ :: _, _, h => cases d <;> exact h.elim
theorem o_sortedL {ds : List PyData} : gSorted [.list ds] = intPR (fun ns => .new (iL (sortI ns))) (intsIn ds) := rfl
theorem o_sortedT {ds : List PyData} : gSorted [.tuple ds] = intPR (fun ns => .new (iL (sortI ns))) (intsIn ds) := rfl
end DL

namespace DL
open PySem PySem.Spec PyProof.Rows L2
section
variable {X : Cx} {G : Gm} {W : Wi} {Z Z' : Ow} {B A A1 A2 A0 : Nat → Option Addr} {σ σ1 : L2.St} {H H1 H2 H0 : Hp} {ρ ρ1 ρ2 : Ev} {Q : VK} {v : V} {r : RV}
theorem HOs.ext {O : Ow} (x : Ext H H1) : ∀ {vs : List V} {rs : List RV} {T : List Addr}, HOs O H vs rs T → HOs O H1 vs rs T
  | _, _, _, .nil => .nil
  | _, _, _, .shr h t => .shr (h.ext x) (t.ext x)
  | _, _, _, .tmp h t => .tmp (h.mono x.kp (fun _ z => .inl z) x.kp1) (t.ext x)
/-- x, y = a, b where the tuple is made (a name of them is asked from within) -/
theorem ds_parC {i j : Nat} {x y : Str} {a b : Expr} {ea : EvA} {px py pt pos : Pos} {kt k2 pt2} (hc : X.calm = true) (hN : X.N.Nodup) (hi : X.N[i]? = some x) (hj : X.N[j]? = some y)
    (hx : Loc X.env.scope x) (hy : Loc X.env.scope y) (ha : DO X G W [a, b] ea)
    (fx : X.fn x = true ∨ X.env.scope.names.lookup x = some .local := by first | exact .inl rfl | exact .inr rfl) (fy : X.fn y = true ∨ X.env.scope.names.lookup y = some .local := by first | exact .inl rfl | exact .inr rfl)
    (hs : swapsWithSole [.Tuple [.Name x px, .Name y py] kt pt] (.Tuple [a, b] k2 pt2) pos.line X.env = pure false := by rfl)
    (hw : swappedStores [.Tuple [.Name x px, .Name y py] kt pt] (.Tuple [a, b] k2 pt2) X.env = pure none := by rfl)
    (h1 : (assignEach [.Tuple [.Name x px, .Name y py] kt pt] X.env).map (·.2) = [assign (.Tuple [.Name x px, .Name y py] kt pt) X.env] := by rfl)
    (n1 : (assignEach [.Name x px, .Name y py] X.env).length = 2 := by rfl) (n2 : (assignEach [.Name x px, .Name y py] X.env).findIdx? (·.1) = none := by rfl)
    (n3 : (assignEach [.Name x px, .Name y py] X.env).map (·.2) = assign (.Name x px) X.env :: (assignEach [.Name y py] X.env).map (·.2) := by rfl) (n4 : (assignEach [.Name y py] X.env).map (·.2) = assign (.Name y py) X.env :: (assignEach [] X.env).map (·.2) := by rfl) :
    DS X G W (.Assign [.Tuple [.Name x px, .Name y py] kt pt] (.Tuple [a, b] k2 pt2) pos) (sPar i j ea) :=
  ⟨PS_imp (ps_asg (pe_tup ha.pa) (pg_tup hc (pgs_cons (pg_name hN hi hx fx) (pgs_cons (pg_name hN hj hy fy) pgs_nil n4) n3) n1 n2) hs hw h1) fun D σ H ⟨Z, B, ρ, A, R, d⟩ => dO_S R d fun rs ρ1 vs H1 A1 T R1 x1 hT nd f d1 => by
    match rs, f, d1 with
    | [r, s], f, d1 =>
      obtain ⟨v, w, rfl⟩ := f.pair
      refine ⟨by rw [sizeLine_eq]; exact Nat.le_of_ble_eq_true rfl, fun p hp => ⟨p, _, rfl, .of upd_same, rfl, v, _, rfl, w, _, rfl, rfl, ?_⟩⟩
      have xp : Ext H1 (upd H1 p (.tup [v, w])) := .new hp
      simp only [] at d1
      cases e1 : putR ρ1 i r with
      | none => rw [e1] at d1; exact d1.elim
      | some ρ2 =>
        simp only [e1] at d1
        cases e2 : putR ρ2 j s with
        | none => simp only [e2] at d1; exact d1.elim
        | some ρ3 =>
          simp only [e2] at d1
          obtain ⟨A2, T2, R2, x2, hT2, nd2, f2⟩ := put_ok (R1.ext xp) (x1.trans (.ext xp)) R.zin hT nd (f.ext xp) e1
          obtain ⟨A3, T3, R3, x3, hT3, nd3, f3⟩ := put_ok R2 x2 R.zin hT2 nd2 f2 e2
          exact d1 _ _ A3 (R3.dropZ fun b z => .inl z) x3
    | [], f, d1 => exact d1.elim
    | [_], f, d1 => exact d1.elim
    | _ :: _ :: _ :: _, f, d1 => exact d1.elim⟩
theorem ds_par3C {i j l : Nat} {x y z : Str} {a b c : Expr} {ea : EvA} {px py pz pt pos : Pos} {kt k2 pt2} (hc : X.calm = true) (hN : X.N.Nodup) (hi : X.N[i]? = some x) (hj : X.N[j]? = some y) (hl : X.N[l]? = some z)
    (hx : Loc X.env.scope x) (hy : Loc X.env.scope y) (hz : Loc X.env.scope z) (ha : DO X G W [a, b, c] ea)
    (fx : X.fn x = true ∨ X.env.scope.names.lookup x = some .local := by first | exact .inl rfl | exact .inr rfl) (fy : X.fn y = true ∨ X.env.scope.names.lookup y = some .local := by first | exact .inl rfl | exact .inr rfl) (fz : X.fn z = true ∨ X.env.scope.names.lookup z = some .local := by first | exact .inl rfl | exact .inr rfl)
    (hs : swapsWithSole [.Tuple [.Name x px, .Name y py, .Name z pz] kt pt] (.Tuple [a, b, c] k2 pt2) pos.line X.env = pure false := by rfl)
    (hw : swappedStores [.Tuple [.Name x px, .Name y py, .Name z pz] kt pt] (.Tuple [a, b, c] k2 pt2) X.env = pure none := by rfl)
    (h1 : (assignEach [.Tuple [.Name x px, .Name y py, .Name z pz] kt pt] X.env).map (·.2) = [assign (.Tuple [.Name x px, .Name y py, .Name z pz] kt pt) X.env] := by rfl)
    (n1 : (assignEach [.Name x px, .Name y py, .Name z pz] X.env).length = 3 := by rfl) (n2 : (assignEach [.Name x px, .Name y py, .Name z pz] X.env).findIdx? (·.1) = none := by rfl)
    (n3 : (assignEach [.Name x px, .Name y py, .Name z pz] X.env).map (·.2) = assign (.Name x px) X.env :: (assignEach [.Name y py, .Name z pz] X.env).map (·.2) := by rfl) (n4 : (assignEach [.Name y py, .Name z pz] X.env).map (·.2) = assign (.Name y py) X.env :: (assignEach [.Name z pz] X.env).map (·.2) := by rfl)
    (n5 : (assignEach [.Name z pz] X.env).map (·.2) = assign (.Name z pz) X.env :: (assignEach [] X.env).map (·.2) := by rfl) :
    DS X G W (.Assign [.Tuple [.Name x px, .Name y py, .Name z pz] kt pt] (.Tuple [a, b, c] k2 pt2) pos) (sPar3 i j l ea) :=
  ⟨PS_imp (ps_asg (pe_tup ha.pa) (pg_tup hc (pgs_cons (pg_name hN hi hx fx) (pgs_cons (pg_name hN hj hy fy) (pgs_cons (pg_name hN hl hz fz) pgs_nil n5) n4) n3) n1 n2) hs hw h1) fun D σ H ⟨Z, B, ρ, A, R, d⟩ => dO_S R d fun rs ρ1 vs H1 A1 T R1 x1 hT nd f d1 => by
    match rs, f, d1 with
    | [q, r, s], f, d1 =>
      obtain ⟨u, v, w, rfl⟩ := f.three
      refine ⟨by rw [sizeLine_eq]; exact Nat.le_of_ble_eq_true rfl, fun p hp => ⟨p, _, rfl, .of upd_same, rfl, u, _, rfl, v, _, rfl, w, _, rfl, rfl, ?_⟩⟩
      have xp : Ext H1 (upd H1 p (.tup [u, v, w])) := .new hp
      simp only [] at d1
      cases e1 : putR ρ1 i q with
      | none => rw [e1] at d1; exact d1.elim
      | some ρ2 =>
        simp only [e1] at d1
        cases e2 : putR ρ2 j r with
        | none => simp only [e2] at d1; exact d1.elim
        | some ρ3 =>
          simp only [e2] at d1
          cases e3 : putR ρ3 l s with
          | none => simp only [e3] at d1; exact d1.elim
          | some ρ4 =>
            simp only [e3] at d1
            obtain ⟨A2, T2, R2, x2, hT2, nd2, f2⟩ := put_ok (R1.ext xp) (x1.trans (.ext xp)) R.zin hT nd (f.ext xp) e1
            obtain ⟨A3, T3, R3, x3, hT3, nd3, f3⟩ := put_ok R2 x2 R.zin hT2 nd2 f2 e2
            obtain ⟨A4, T4, R4, x4, hT4, nd4, f4⟩ := put_ok R3 x3 R.zin hT3 nd3 f3 e3
            exact d1 _ _ A4 (R4.dropZ fun b z => .inl z) x4
    | [], f, d1 => exact d1.elim
    | [_], f, d1 => exact d1.elim
    | [_, _], f, d1 => exact d1.elim
    | _ :: _ :: _ :: _ :: _, f, d1 => exact d1.elim⟩
end
end DL

namespace DL
open PySem PySem.Spec PyProof.Rows L2 RZ
section
variable {X : Cx} {G : Gm} {W : Wi} {Z Z' : Ow} {B A A1 A2 A0 : Nat → Option Addr} {σ σ1 : L2.St} {H H1 H2 H0 : Hp} {ρ ρ1 ρ2 : Ev} {Q : VK} {v : V} {r : RV}
/-! ### {} -/
def eDict0 : EvE := fun ρ => .ok (.tmp (.dict [])) ρ
theorem de_dict0 {pos : Pos} : DE X G W (.Dict [] [] pos) eDict0 := ⟨⟨fun pins s σ H Q I ⟨Z, B, ρ, A, R, d⟩ => by
  have n : H s.heap.objs.size = none := I.hok.fresh (Nat.le_refl _)
  refine wpAny_Dict_empty ⟨.ref s.heap.objs.size, _, I.laid (a := s.heap.objs.size) (o := XO { cls := .type "dict", data := .dict #[] } s.heap.objs.size) (t' := s.toks) (fun _ _ q => Heap.get?_push_of_some _ q) (Nat.le_refl _) (xo_ok (Heap.get?_push_size _ rfl) I.big), rfl, ?_⟩
  exact d _ _ A (R.newZ (.new n) n (by rw [upd_same]; simp)) (.ext (.new n)) n ⟨_, [], [], upd_same, dobj_nil, .nil, .nil⟩⟩⟩
/-! ### str(i) -/
def gStr : GN
  | [.int i] => if bits i < 1920 then .val (.str (toString i)) else .bad
  | _ => .bad
theorem call_strS : CallS (fun xs H Q => ∃ i, xs = [V.int i] ∧ i.natAbs.log2 < 1920 ∧ Q (.str (toString i)) H) gStr := by
  intro O H xs ds Q hO hv h
  match ds, hv, h with
  | [.int i], hv, h =>
    obtain ⟨x, rfl, hx⟩ := hv.one
    have hx : x = .int i := hx
    subst hx
    by_cases hb : bits i < 1920
    · simp only [gStr, if_pos hb] at h
      exact ⟨i, rfl, hb, h _ H (.refl _) (.str _)⟩
    · simp only [gStr, if_neg hb] at h; exact h.elim
  | [], _, h => exact h.elim
  | [.none], _, h => exact h.elim
  | [.bool _], _, h => exact h.elim
  | [.str _], _, h => exact h.elim
  | [.list _], _, h => exact h.elim
  | [.tuple _], _, h => exact h.elim
  | [.dict _], _, h => exact h.elim
  | d :: _ :: _, _, h => cases d <;> exact h.elim
theorem o_str {i : Int} : gStr [.int i] = if bits i < 1920 then .val (.str (toString i)) else .bad := rfl
/-! ### zip of two tuples, of two lists -/
def pairsD (xs ys : List PyData) : List PyData := (xs.zip ys).map fun p => .tuple [p.1, p.2]
def zipR (ρ : Ev) : Option (List PyData) → Ro (List PyData)
  | some [.tuple xs, .tuple ys] => .ok (pairsD xs ys) ρ
  | some [.list xs, .list ys] => .ok (pairsD xs ys) ρ
  | _ => .bad
def iZip (a : EvA) : EvI := fun ρ => (a ρ).bind fun rs ρ1 => zipR ρ1 (shrs rs)
theorem pairs_get {xs ys : List PyData} {i : Nat} {x y : PyData} (h1 : xs[i]? = some x) (h2 : ys[i]? = some y) : (pairsD xs ys)[i]? = some (.tuple [x, y]) := by
  unfold pairsD
  rw [List.getElem?_map, (List.getElem?_zip_eq_some (z := (x, y))).mpr ⟨h1, h2⟩]; rfl
theorem pairs_len {xs ys : List PyData} : (pairsD xs ys).length = min xs.length ys.length := by unfold pairsD; rw [List.length_map, List.length_zip]
theorem pair_new {O : Ow} {T : Addr} {x y : V} {dx dy : PyData} (n : H T = none) (hx : Fz O H x dx) (hy : Fz O H y dy) : FzU true O (upd H T (.tup [x, y])) (.ref T) (.tuple [dx, dy]) :=
  .inr ⟨rfl, T, _, _, rfl, rfl, upd_same, .cons (hx.ext (.new n)) (.cons (hy.ext (.new n)) .nil)⟩
theorem itok_zipT {K : PySem.W.Frag} {a b : Addr} {xs ys : List V} {ds es : List PyData} (e : TrT H a xs) (n : ¬ Oo Z A a) (f : FzA (Oo Z A) H xs ds) (e' : TrT H b ys) (n' : ¬ Oo Z A b) (f' : FzA (Oo Z A) H ys es) :
    ItOk true Z (ItzT K a b) (pairsD ds es) A H := fun Z' A1 H1 fz th x => by
  have e1 : SqT K H1 a xs := (e.keep fun o eo => x.keep a o eo fun i z => n (.inr ⟨i, z⟩)).sq
  have e2 : SqT K H1 b ys := (e'.keep fun o eo => x.keep b o eo fun i z => n' (.inr ⟨i, z⟩)).sq
  have f1 := x.fzA' fz f
  have f2 := x.fzA' fz f'
  have l1 := f.len
  have l2 := f'.len
  rw [pairs_len]
  refine ⟨fun i hi => ?_, fun i hi => ⟨xs, ys, e1, e2, by omega⟩, fun i y H2 hi ⟨T, x1, y1, hy, hT, hH, g1, g2⟩ => ?_⟩
  · exact ⟨xs, ys, xs[i]'(by omega), ys[i]'(by omega), e1, e2, List.getElem?_eq_getElem _, List.getElem?_eq_getElem _⟩
  · subst hy; subst hH
    have i1 : i < ds.length := by omega
    have i2 : i < es.length := by omega
    obtain ⟨w, h1, h2⟩ := f1.get (List.getElem?_eq_getElem i1)
    obtain ⟨w', h1', h2'⟩ := f2.get (List.getElem?_eq_getElem i2)
    rw [g1 xs e1] at h1; cases h1
    rw [g2 ys e2] at h1'; cases h1'
    exact ⟨.new hT, _, pairs_get (List.getElem?_eq_getElem i1) (List.getElem?_eq_getElem i2), pair_new hT h2 h2'⟩
theorem itok_zipL {K : PySem.W.Frag} {a b : Addr} {xs ys : List V} {ds es : List PyData} (e : H a = some (.lst xs)) (n : ¬ Oo Z A a) (f : FzA (Oo Z A) H xs ds) (e' : H b = some (.lst ys)) (n' : ¬ Oo Z A b) (f' : FzA (Oo Z A) H ys es) :
    ItOk true Z (Itz K a b) (pairsD ds es) A H := fun Z' A1 H1 fz th x => by
  have e1 : SqL K H1 a xs := .of (x.keep a _ e fun i z => n (.inr ⟨i, z⟩))
  have e2 : SqL K H1 b ys := .of (x.keep b _ e' fun i z => n' (.inr ⟨i, z⟩))
  have f1 := x.fzA' fz f
  have f2 := x.fzA' fz f'
  have l1 := f.len
  have l2 := f'.len
  rw [pairs_len]
  refine ⟨fun i hi => ?_, fun i hi => ⟨xs, ys, e1, e2, by omega⟩, fun i y H2 hi ⟨T, x1, y1, hy, hT, hH, g1, g2⟩ => ?_⟩
  · exact ⟨xs, ys, xs[i]'(by omega), ys[i]'(by omega), e1, e2, List.getElem?_eq_getElem _, List.getElem?_eq_getElem _⟩
  · subst hy; subst hH
    have i1 : i < ds.length := by omega
    have i2 : i < es.length := by omega
    obtain ⟨w, h1, h2⟩ := f1.get (List.getElem?_eq_getElem i1)
    obtain ⟨w', h1', h2'⟩ := f2.get (List.getElem?_eq_getElem i2)
    rw [g1 xs e1] at h1; cases h1
    rw [g2 ys e2] at h1'; cases h1'
    exact ⟨.new hT, _, pairs_get (List.getElem?_eq_getElem i1) (List.getElem?_eq_getElem i2), pair_new hT h2 h2'⟩
theorem di_zip {e e2 : Expr} {ea : EvA} {p pos tpos : Pos} {elts : List Expr} {kk : Nat} (hg : Gl X "zip") (hm : X.mg "zip" = none) (ha : DA X G W [e, e2] ea)
    (hs : starEach [e, e2] X.env = (false, eval e X.env) :: starEach [e2] X.env := by rfl) (hpl : (backTo pos (starEach [e2] X.env)).any (·.1) = false := by rfl) :
    DI X G W true (.Tuple elts kk tpos) (.Call (.Name "zip" p) [e, e2] [] pos) (iZip ea) :=
  ⟨⟨fun pins s σ H R I ⟨Z, B, ρ, A, R0, d⟩ => (pi_zipA hg hm ha.pa hs hpl).run pins s σ H R I (by
    refine dA_bind shift_I R0 d fun rs ρ1 vs H1 A1 R1 x1 f1 d1 => ?_
    cases e : shrs rs with
    | none => rw [e] at d1; exact d1.elim
    | some ds =>
      rw [e] at d1
      have fa := f1.shr e
      match ds, fa, d1 with
      | [.tuple xs, .tuple ys], .cons (.tup ha na qa) (.cons (.tup hb nb qb) .nil), d1 => exact ⟨_, _, _, _, rfl, .inr ⟨ha.sq, hb.sq, d1 _ H1 A1 R1 .refl (itok_zipT ha na qa hb nb qb)⟩⟩
      | [.list xs, .list ys], .cons (.lst ha na qa) (.cons (.lst hb nb qb) .nil), d1 => exact ⟨_, _, _, _, rfl, .inl ⟨.of ha, .of hb, d1 _ H1 A1 R1 .refl (itok_zipL ha na qa hb nb qb)⟩⟩
      | [], _, d1 => exact d1.elim
      | [w], _, d1 => cases w <;> exact d1.elim
      | w1 :: w2 :: _ :: _, _, d1 => cases w1 <;> cases w2 <;> exact d1.elim
      | [.none, _], _, d1 => exact d1.elim
      | [.bool _, _], _, d1 => exact d1.elim
      | [.int _, _], _, d1 => exact d1.elim
      | [.str _, _], _, d1 => exact d1.elim
      | [.dict _, _], _, d1 => exact d1.elim
      | [.tuple _, .none], _, d1 => exact d1.elim
      | [.tuple _, .bool _], _, d1 => exact d1.elim
      | [.tuple _, .int _], _, d1 => exact d1.elim
      | [.tuple _, .str _], _, d1 => exact d1.elim
      | [.tuple _, .list _], _, d1 => exact d1.elim
      | [.tuple _, .dict _], _, d1 => exact d1.elim
      | [.list _, .none], _, d1 => exact d1.elim
      | [.list _, .bool _], _, d1 => exact d1.elim
      | [.list _, .int _], _, d1 => exact d1.elim
      | [.list _, .str _], _, d1 => exact d1.elim
      | [.list _, .tuple _], _, d1 => exact d1.elim
      | [.list _, .dict _], _, d1 => exact d1.elim)⟩⟩
end
/-! equations -/
theorem eDict0_ {ρ : Ev} : eDict0 ρ = .ok (.tmp (.dict [])) ρ := rfl
theorem iZip_ {a : EvA} {ρ : Ev} : iZip a ρ = (a ρ).bind fun rs ρ1 => zipR ρ1 (shrs rs) := rfl
theorem zipR_t {ρ : Ev} {xs ys : List PyData} : zipR ρ (some [.tuple xs, .tuple ys]) = .ok (pairsD xs ys) ρ := rfl
theorem zipR_l {ρ : Ev} {xs ys : List PyData} : zipR ρ (some [.list xs, .list ys]) = .ok (pairsD xs ys) ρ := rfl
end DL

namespace DL
open PySem PySem.Spec PyProof.Rows L2
/-! ### an error that is caught and kept in a name -/
section
variable {X : Cx} {pins : List (Addr × Obj)} {σ : L2.St} {H : Hp} {s : Shared}
/-- the pin of a suite is kept behind it -/
theorem suite_out {e : Addr} {oe : Obj} (S : Inv (X.suite e ((e, oe) :: (X.pn ++ pins))) [] σ H s) (ok : X.Ok) : Inv X ((e, oe) :: pins) σ H s := by
  refine ⟨ok, S.os, S.bare, S.base, S.loc, S.cell, S.free, S.freeC, fun q hq => S.pin q ?_, S.hok, S.len⟩
  rcases List.mem_append.mp hq with z | z
  · exact List.mem_append_left _ (List.mem_cons_of_mem _ (List.mem_append_left _ z))
  · rcases List.mem_cons.mp z with z | z
    · rw [z]; exact List.mem_append_left _ List.mem_cons_self
    · exact List.mem_append_left _ (List.mem_cons_of_mem _ (List.mem_append_right _ z))
/-- a pinned object of our own is tracked from now on -/
theorem pin_track {e : Addr} {oe : Obj} {u : HO} (S : Inv X ((e, oe) :: pins) σ H s) (h0 : X.s_0.heap.get? e = none) (hp : ∀ q ∈ X.pn ++ pins, q.1 ≠ e) (new : ObjOk X.prog X.w (upd H e u) s.heap e u) : Inv X pins σ (upd H e u) s := by
  obtain ⟨g1, g2, g3, g4, g5⟩ := S.pin (e, oe) (List.mem_append_right _ List.mem_cons_self)
  have old : ∀ b o, X.s_0.heap.get? b = some o → b ≠ e := fun b o q z => by rw [z, h0] at q; cases q
  have trk : ∀ b o, H b = some o → b ≠ e := fun b o q z => by rw [z, g2] at q; cases q
  have cl : ∀ x c, X.env.cells.lookup x = some c → c ≠ e := fun x c q z => by
    obtain ⟨v, o, ho, hd⟩ := S.cell x c q
    rw [z, g1] at ho
    cases ho
    exact g5 _ hd
  refine ⟨S.ok, S.os, S.bare, ⟨S.base.keep, S.base.slot, fun b o q n m => ?_, S.base.there, fun b xs q => ?_, fun b o v q => ?_, fun b ps q => ?_⟩, S.loc, S.cell, ?_, fun x c q => ?_, fun q hq => ?_, fun b o q => ?_, S.len⟩
  · rw [upd_ne (old b o q)]; exact S.base.free b o q n m
  · have := S.base.tups b xs q
    rw [upd_ne (trk _ _ this)]; exact this
  · have := S.base.frzs b o v q
    rw [upd_ne (trk _ _ this)]; exact this
  · obtain ⟨more, this⟩ := S.base.tbls b ps q
    exact ⟨more, by rw [upd_ne (trk _ _ this)]; exact this⟩
  · rw [upd_ne (Ne.symm g3)]; exact S.free
  · rw [upd_ne (cl x c q)]; exact S.freeC x c q
  · obtain ⟨k1, k2, k3⟩ := S.pin q (by
      rcases List.mem_append.mp hq with z | z
      · exact List.mem_append_left _ z
      · exact List.mem_append_right _ (List.mem_cons_of_mem _ z))
    exact ⟨k1, by rw [upd_ne (hp q hq)]; exact k2, k3⟩
  · by_cases hb : b = e
    · subst hb
      rw [upd_same] at q
      cases q
      exact new
    · rw [upd_ne hb] at q
      exact (S.hok b o q).stay (fun _ _ _ z => z) (fun c z => by rw [upd_ne (trk _ _ z)]; exact z) fun c xs z => by rw [upd_ne (trk _ _ z)]; exact z
end
/-- what 'except x as n: y = n' wishes of the body's error -/
def wKeep (K : PySem.W.Frag) (c : Value) (i j : Nat) (D : Ends) : WX := fun cls d σ H => PySem.W.exmOne K cls c = some true ∧
  ∀ e, H e = none → D.nx ((((σ.set i (some (.ref e))).set j (some (.ref e)))).set i none) (upd H e (EO cls d e))
section
variable {X : Cx} {x n y : Str} {c : Value} {i j : Nat} {body : List Stmt} {np pos pos' p1 p2 p3 : Pos} {tb : WX → TS}
theorem ps_try_keep (hs : X.stack = X.env :: X.outer) (hex : X.ex = []) (hf : X.env.frame = some X.env.locals) (hN : X.N.Nodup) (hi : X.N[i]? = some n) (hj : X.N[j]? = some y) (hln : X.env.kindOf n = some .local) (hly : X.env.kindOf y = some .local) (hyl : Loc X.env.scope y)
    (hvn : Vis X.env.scope n) (hc : Names X x c) (hsw : swapsWith (.Name n p2) (some (.Name y p1)) p3.line X.env = pure false) (hd1 : (n == ("__debug__" : Str)) = false := by decide) (hd2 : (n == ("__classdict__" : Str)) = false := by decide)
    (hb : ∀ (W : WX) (pn : List (Addr × Obj)) (xe : Value → Shared → Prop), Takes (X.tr pn xe) W → PassesOwn (model X.prog X.w) X.A X.env xe → PSs (X.tr pn xe) body (tb W)) :
    PS X (.Try body [.ExceptHandler (some (.Name x np)) (some n) [.Assign [.Name y p1] (.Name n p2) p3] pos'] [] [] pos) (fun D σ H => tb (wKeep X.K c i j D) D σ H) := by
  constructor
  intro pins s σ H D I0 hbody
  have okX := I0.ok
  have frm : X.A.frames = some (X.env :: X.outer) := by rw [okX.frames, hs]
  let M := model X.prog X.w
  let hdl : List ExceptHandler := [.ExceptHandler (some (.Name x np)) (some n) [.Assign [.Name y p1] (.Name n p2) p3] pos']
  let next : Value → Shared → Prop := fun er t1 => wpAny M X.A (noteFrame er X.env) (fun _ t2 => wpAny M X.A (setFlight er none) (fun _ t3 => wpAny M X.A (handleBy er X.env hdl) (SP X pins D) X.xe t3) X.xe t2) X.xe t1
  have caught : ∀ er t1, XE (X.tr (X.pn ++ pins) next) (wKeep X.K c i j D) er t1 → next er t1 := by
    intro er t1 hx
    obtain ⟨e, Gd, sI, pinI, σe, He, cls, dd, rfl, JI, nbI, upI, sk, ne, osI, bareI, em, wish⟩ := hx
    have J0 : Inv X pins σe He sI := JI.ofTry okX
    have sk' : Sky Gd (X.env :: X.outer) e (L2.Zc cls dd) X.env.locals t1.heap := hs ▸ sk
    refine Sky.land L2.Zc.steady frm hf sk' fun g3 land3 to3 => ?_
    have gd0 : Gd.get? e = none := land3.2.1
    have J3 : Inv X pins σe He { t1 with heap := g3 } := J0.landed nbI land3.1 (upI.trans to3) osI bareI
    obtain ⟨o3, v3, at3, z3, dt3⟩ := land3.there
    have offFrames : e ∉ frs (X.env :: X.outer) := fun hm => by
      obtain ⟨_, o', q1, q2⟩ := land3.2.2.1.mem hm
      rw [at3] at q1
      cases q1
      exact q2 _ dt3
    have offLoc : e ≠ X.env.locals := fun z => offFrames (List.mem_filterMap.mpr ⟨X.env, List.mem_cons_self, by rw [hf, z]⟩)
    have offFs : e ∉ X.fs := fun hm => by
      obtain ⟨w1, w2, w3⟩ := List.mem_filterMap.mp hm
      exact offFrames (List.mem_filterMap.mpr ⟨w1, List.mem_cons_of_mem _ w2, w3⟩)
    have notIn : sI.heap.get? e = none := by
      cases q : sI.heap.get? e with
      | none => rfl
      | some o => rw [nbI e o q (by rw [hs]; exact offFrames)] at gd0; cases gd0
    have not0 : X.s_0.heap.get? e = none := by
      cases q : X.s_0.heap.get? e with
      | none => rfl
      | some o =>
        obtain ⟨o', q'⟩ := J0.base.there e o q (by rw [hex]; exact fun z => nomatch z)
        rw [notIn] at q'; cases q'
    have notPin : ∀ q ∈ X.pn ++ pins, q.1 ≠ e := fun q hq z => by
      have := (J0.pin q hq).1
      rw [z, notIn] at this; cases this
    have S3 := J3.suite at3 dt3 ne offLoc offFs
    refine wpAny_handleBy_cons (codeAny_handlers_test ?_) (fun q => nomatch q)
    have clsOf : PySem.W.Looks M g3 (typeOf (.ref e)) cls := fun A Q E t k q => wpAny_typeOf_ref (k _ _ at3) (by rw [z3.1]; exact q)
    have yes := PySem.W.exm_one (M := M) J3.kIn clsOf em
    have look : ∀ {Q E : Value → Shared → Prop}, Q c { t1 with heap := g3 } → wpAny M (X.A.mark (some (.ref e))) (eval (.Name x np) X.env) Q E { t1 with heap := g3 } := fun {Q E} q => by
      obtain ⟨a1, a2, a3 | ⟨a3, a4, a5⟩⟩ := hc
      · exact ld_glob (X := X.suite e ((e, o3) :: (X.pn ++ pins))) S3 a1 a3 q a2
      · exact ld_blt (X := X.suite e ((e, o3) :: (X.pn ++ pins))) S3 a1 a3 a4 q a5 a2
    refine look (yes.here ?_)
    refine codeAny_handlers_suite_as ?_
    refine HandSPX.lands_againZ land3 fun g4 land4 to4 => ?_
    have J4 : Inv X pins σe He { t1 with heap := g4 } := J0.landed nbI land4.1 ((upI.trans to3).trans to4) osI bareI
    obtain ⟨o4, v4, at4, z4, dt4⟩ := land4.there
    have S4 := J4.suite at4 dt4 ne offLoc offFs
    refine store_ok (X := X.suite e ((e, o4) :: (X.pn ++ pins))) (v := .ref e) S4 hN hi (.inl hln) rfl (fun t5 S5 => ?_) (.inr hln)
    have stm : PSs (X.suite e ((e, o4) :: (X.pn ++ pins))) [.Assign [.Name y p1] (.Name n p2) p3] (tAsg (tVar i) (gName j)) := pss_one (ps_set (i := j) hN hj hyl (pe_var (i := i) hi hvn hd1 hd2) hsw (.inr hly))
    refine wpAny_mono (stm.run [] t5 _ He { nx := fun σ6 H6 => σ6 = (σe.set i (some (.ref e))).set j (some (.ref e)) ∧ H6 = He, rt := fun _ _ => False } S5 ?_) (fun fl t6 out => ?_) (fun _ _ z => False.elim z)
    · exact ⟨.ref e, by have l4 : σe.length = X.N.length := S4.len; have := (List.getElem?_eq_some_iff.mp hi).1; rw [List.getElem?_set_self (by omega)], rfl, rfl⟩
    cases fl with
    | next =>
      obtain ⟨σ6, H6, S6, rfl, rfl⟩ := out
      refine gone_ok (suite_out S6 okX) hN hi hln fun t7 S7 => ?_
      obtain ⟨at7, _⟩ := S7.pin (e, o4) (List.mem_append_right _ List.mem_cons_self)
      exact ⟨_, _, pin_track S7 not0 notPin (eo_ok at7 z4.1 z4.2 dt4), wish e ne⟩
    | brk => obtain ⟨_, _, _, z⟩ := out; exact z.elim
    | cont => obtain ⟨_, _, _, z⟩ := out; exact z.elim
    | ret u => obtain ⟨_, _, _, _, _, z⟩ := out; exact z.elim
  refine wpAny_Try_except ?_
  refine wpAny_mono ((hb (wKeep X.K c i j D) (X.pn ++ pins) next caught PassesOwn.looking).run [] s σ H D (I0.toTry _) hbody) (fun fl t1 out => ?_) (fun er t1 z => z)
  cases fl with
  | next =>
    obtain ⟨σ1, H1, J1, q⟩ := out
    exact wpAny_execs_nil ⟨σ1, H1, J1.ofTry okX, q⟩
  | brk =>
    obtain ⟨σ1, H1, J1, q⟩ := out
    exact ⟨σ1, H1, J1.ofTry okX, q⟩
  | cont =>
    obtain ⟨σ1, H1, J1, q⟩ := out
    exact ⟨σ1, H1, J1.ofTry okX, q⟩
  | ret u =>
    obtain ⟨v1, σ1, H1, J1, r1, q⟩ := out
    exact ⟨v1, σ1, H1, J1.ofTry okX, r1, q⟩
end
end DL

namespace DL
open PySem PySem.Spec PyProof.Rows L2
/-! ### the program's own errors: class C(Base): def __init__(self, f): Base.__init__(self, text); self.f = f -/
section
variable {X : Cx} {p p1 p2 p3 p4 p5 p6 p7 pos : Pos} {e : Expr} {es : List Expr} {ta : TA}
/-- Base.__init__(self, ..), Base a class of the program without an __init__ of its own -/
theorem pe_baseinit {B : Str} {F : Addr} {pl : Sem Bool} (hg : Gl X B) (hm : X.mg B = some (.ref F)) (hS : PySem.W.specialIn X.K (.ref F) "__getattribute__" = some (some (.builtin "type.__getattribute__"))) (hR : PySem.W.readsIn X.K F (.type "type") = true)
    (hF : PySem.W.findCls X.K (.ref F) (.type "type") "__init__" = some (.val (.builtin "ValueError.__init__"))) (ha : PA X (e :: es) ta) (hd : (B == ("__debug__" : Str)) = false := by decide)
    (hcall : eval (.Call (.Attribute (.Name B p1) "__init__" p2) (e :: es) [] pos) X.env = (do
      let ov ← eval (.Name B p1) X.env
      standAt p2.atName
      let (f, first) ← holding [ov] (getMethod ov "__init__" pl)
      callWith pos f first (backTo pos (starEach (e :: es) X.env)) (backToKw pos (keywordEach [] X.env))) := by rfl)
    (hst : starEach (e :: es) X.env = (false, eval e X.env) :: starEach es X.env := by rfl) (hpl : (backTo pos (starEach es X.env)).any (·.1) = false := by rfl) :
    PE X (.Call (.Attribute (.Name B p1) "__init__" p2) (e :: es) [] pos) (tVeI X.K ta) := ⟨fun pins s σ H Q I h => by
  refine PySem.W.methodCall_KW (ld_glob I hg hm ?_ hd) hcall
  refine PySem.W.method_cls I.kIn hS (PySem.W.cls_value I.kIn hR hF (by decide +kernel) ?_)
  show wpAny _ _ (callWith pos (Value.builtin "ValueError.__init__") [] (backTo pos (starEach (e :: es) X.env)) []) _ _ _
  refine PyProof.Rows.callWith_method1 (thn (ha.run pos pins _ σ H _ (I.tok _) h) fun us s1 ⟨vs, H1, I1, r1, a, C, ws, ev, hl, T, ea, q⟩ => ?_) hst hpl
  cases r1 with
  | nil => cases ev
  | @cons _ u0 _ ur r0 rr =>
    cases ev
    obtain rfl : u0 = Value.ref a := r0
    exact oinit_ok T I1 ea (by rw [← Paired.length rr, sizeLine_eq]; omega) fun s' J => ⟨.non, H1, J, rfl, q⟩⟩
/-- what __init__ promises -/
def spInit (K : PySem.W.Frag) (C : Addr) (f : Str) : Sp := fun vs H Q _ => ∃ (a : Addr) (y : V), vs = [.ref a, y] ∧ H a = some (exo a C none) ∧ OexC K C ∧ PySem.W.findIn K (.ref C) f = some none ∧
  ∀ dx, H dx = none → dx ≠ a → Q .non (upd (upd H dx (exd dx [(f, y)])) a (exo a C (some dx)))
/-- .. and its body's reading keeps it -/
theorem init_read {K : PySem.W.Frag} {C : Addr} {f m : Str} {σ : L2.St} {H : Hp} {a : Addr} {y : V} {Q : VK} {D : Ends} (h0 : σ[0]? = some (some (.ref a))) (h1 : σ[1]? = some (some y)) (hD : ∀ σ' H', Q .non H' → D.nx σ' H') (ea : H a = some (exo a C none)) (T : OexC K C)
    (hno : PySem.W.findIn K (.ref C) f = some none) (q : ∀ dx, H dx = none → dx ≠ a → Q .non (upd (upd H dx (exd dx [(f, y)])) a (exo a C (some dx)))) :
    tSeq (tDrop (tVeI K (tCons (tVar 0) (tCons (tC (.str m)) tNil)))) (tOst K f (tVar 0) (tVar 1)) D σ H :=
  ⟨_, h0, a, C, [.str m], rfl, by simp, T, ea, y, h1, _, h0, a, C, rfl, T, hno, .inl ⟨ea, fun dx n ne => hD _ _ (q dx n ne)⟩⟩
end
section
variable {X : Cx} {G : Gm} {W : Wi} {Z Z' : Ow} {B A A1 A2 A0 : Nat → Option Addr} {σ σ1 : L2.St} {H H1 H2 H0 : Hp} {ρ ρ1 ρ2 : Ev} {Q : VK} {v : V} {r : RV}
/-! ### raise -/
/-- the class c of errors, its field f -/
structure ErrC (P : Program) (w : World) (K : PySem.W.Frag) (mg : Str → Option Value) (base : Heap) (G : Gm) (c f : String) (C fI : Addr) (fd : FuncData) : Prop where
  ct : G.ct c = some C
  fld : G.fld c = f
  gC : mg c = some (.ref C)
  T : OexC K C
  iC : PySem.W.findIn K (.ref C) "__init__" = some (some (.ref fI))
  tI : PySem.W.typeIn K (.ref fI) = some (.type "function")
  hno : PySem.W.findIn K (.ref C) f = some none
  F1 : FnOk P w K mg base (L2.CX P w) 1 fI fd ["self", f] (spInit K C f)
  bI : Binds K fd ["self", f] []
def raiseR (c : String) (ρ : Ev) : RV → Ro Fl
  | .shr d => .exc ⟨c, some d⟩ ρ
  | _ => .bad
def sRaise (c : String) (a : EvE) : EvS := fun ρ => (eEsc a ρ).bind fun r ρ1 => raiseR c ρ1 r
theorem passF {X : Cx} : Passes (L2.CX X.prog X.w) X (fun _ _ _ => False) := fun _ _ _ _ _ _ _ ⟨_, _, _, _, _, _, _, _, _, _, _, _, z⟩ => z.elim
theorem ds_raise {c f : String} {C fI : Addr} {fd : FuncData} {e : Expr} {ea : EvE} {p pos pos2 : Pos} (EC : ErrC X.prog X.w X.K X.mg X.base G c f C fI fd) (hr : Room 2 X.A) (hc : X.calm = true) (hg : Gl X c) (tk : Takes X W) (he : DE X G W e ea)
    (hdb : ((c : Str) == ("__debug__" : Str)) = false := by decide) (hst : starEach [e] X.env = (false, eval e X.env) :: starEach [] X.env := by rfl) : DS X G W (.Raise (some (.Call (.Name c p) [e] [] pos)) none pos2) (sRaise c ea) :=
  ⟨PS_imp (ps_raise hc tk (pmk_oex EC.T EC.iC EC.tI EC.F1 hr EC.bI .nil passF hg EC.gC (pa_cons (de_esc he).pe pa_nil hst) hdb hst)) fun D σ H ⟨Z, B, ρ, A, R, d⟩ => by
    refine dE_S R d fun r ρ1 v H1 A1 R1 x1 f1 d1 => ?_
    cases r with
    | tmp _ => exact d1.elim
    | var _ => exact d1.elim
    | shr dd =>
      refine ⟨by simp, fun a ha => ⟨a, v, rfl, upd_same, EC.T, EC.hno, fun dx n ne => ⟨rfl, dx, [((f : Str), v)], upd_same, ?_, ?_, ?_⟩⟩⟩
      · rw [upd_ne ne, upd_same]
      · rw [upd_ne ne] at n; exact n
      · have n1 : H1 dx = none := by rw [upd_ne ne] at n; exact n
        have eh : upd (L2.del (upd (upd (upd H1 a (exo a C none)) dx (exd dx [((f : Str), v)])) a (exo a C (some dx))) a) dx (.xd [((f : Str), v)]) = upd H1 dx (.xd [((f : Str), v)]) := by
          funext b
          by_cases hb : b = dx
          · rw [hb, upd_same, upd_same]
          · rw [upd_ne hb, upd_ne hb]
            by_cases ba : b = a
            · rw [ba, del_same, ha]
            · rw [del_ne ba, upd_ne ba, upd_ne hb, upd_ne ba]
        rw [eh]
        exact d1 (.ref C) (some dx) σ _ A1 (R1.ext (.new n1)) (.ext (.new n1)) ⟨C, EC.ct, rfl, dx, v, rfl, by rw [upd_same, EC.fld], fun z => R1.oin dx z n1, f1.ext (.new n1)⟩⟩
/-! ### try -/
theorem Rep.setT {t : Th} {i : Nat} {a : Addr} (R : Rep G Z B σ H ρ A) (hp : Npar (look ρ i)) (ht : ThR G (Oo Z A) H a t) : Rep G Z B (σ.set i (some (.ref a))) H (put ρ i (.scr t)) (cut A i) := by
  refine ⟨by rw [put_len, List.length_set, R.len], fun j => ?_, fun j k a e f => R.inj j k a (cut_some e).2 (cut_some f).2, fun j a e => R.apart j a (cut_some e).2, R.zin, fun j a e => R.ain j a (cut_some e).2, bpar_put R hp, R.tab⟩
  by_cases e : j = i
  · subst e
    by_cases l : j < ρ.length
    · rw [look_put_same l]
      refine ⟨a, ?_, ht.mono kp0 fun b z => .inl (oo_cut b z)⟩
      rw [List.getElem?_set, if_pos rfl, if_pos (by rw [← R.len]; exact l)]
    · rw [look_put, if_neg (fun z => l z.2)]
      have : look ρ j = .non := Classical.byContradiction fun z => l (look_lt z)
      rw [this]; trivial
  · rw [look_put_ne e]
    exact (R.at_ j).other oo_cut (cut_ne e) (get_set e)
def tryX (i j : Nat) (x : Ex) (ρ : Ev) : Ro Fl := if settable (look ρ i) = true ∧ settable (look ρ j) = true ∧ i ≠ j then .ok .nx (put (put (put ρ i .non) j (.scr (.err x))) i .non) else .bad
def tryR (i j : Nat) : Ro Fl → Ro Fl
  | .exc x ρ => tryX i j x ρ
  | r => r
/-- try: b / except (the program's errors) as i: j = i -/
def sTry (i j : Nat) (b : EvS) : EvS := fun ρ => tryR i j (b ρ)
theorem ds_try {x n y : Str} {F : Addr} {i j : Nat} {body : List Stmt} {b : EvS} {np pos pos' p1 p2 p3 : Pos} (hs : X.stack = X.env :: X.outer) (hex : X.ex = []) (hf : X.env.frame = some X.env.locals) (hN : X.N.Nodup) (hi : X.N[i]? = some n) (hj : X.N[j]? = some y) (hln : X.env.kindOf n = some .local) (hly : X.env.kindOf y = some .local)
    (hvn : Vis X.env.scope n) (hc : Names X x (.ref F)) (hall : ∀ c C, G.ct c = some C → PySem.W.exmOne X.K (.ref C) (.ref F) = some true) (hsw : swapsWith (.Name n p2) (some (.Name y p1)) p3.line X.env = pure false) (hd1 : (n == ("__debug__" : Str)) = false) (hd2 : (n == ("__classdict__" : Str)) = false)
    (hb : ∀ (W' : WX) (pn : List (Addr × Obj)) (xe : Value → Shared → Prop), Takes (X.tr pn xe) W' → DSs (X.tr pn xe) G W' body b) :
    DS X G W (.Try body [.ExceptHandler (some (.Name x np)) (some n) [.Assign [.Name y p1] (.Name n p2) p3] pos'] [] [] pos) (sTry i j b) :=
  ⟨PS_imp (ps_try_keep (tb := fun W' => dS G W' b) hs hex hf hN hi hj hln hly (.inl hly) hvn hc hsw hd1 hd2 fun W' pn xe tk _ => (hb W' pn xe tk).pss) fun D σ H ⟨Z, B, ρ, A, R, d⟩ => by
    refine ⟨Z, B, ρ, A, R, ?_⟩
    unfold sTry at d
    cases e : b ρ with
    | bad => rw [e] at d; exact d.elim
    | ok f ρ1 =>
      rw [e] at d
      cases f with
      | nx => exact d
      | brk => exact d
      | ct => exact d
      | ret r =>
        cases r with
        | shr _ => exact d
        | tmp _ => exact d
        | var _ => exact d.elim
    | exc y ρ1 =>
      rw [e] at d
      have d : SDn G W Z B D H A (tryX i j y ρ1) := d
      unfold tryX at d
      by_cases hl : settable (look ρ1 i) = true ∧ settable (look ρ1 j) = true ∧ i ≠ j
      · rw [if_pos hl] at d
        intro cv dx σ' H' A' R' x' ⟨C, g1, g2, g3⟩
        subst g2
        refine ⟨hall _ _ g1, fun a na => ?_⟩
        have xa : Ext H' (upd H' a (EO (.ref C) dx a)) := .new na
        have R2 := (R'.ext xa).setN (i := i) (o := some (V.ref a)) (npar_of hl.1)
        have R3 := R2.setT (t := .err y) (i := j) (a := a) (by rw [look_put_ne (Ne.symm hl.2.2)]; exact npar_of hl.2.1) (by
          refine ⟨C, dx, g1, upd_same, fun z => ?_, ?_⟩
          · exact (R'.oin a (oo_cut a z)) na
          · cases q : y.d with
            | none => rw [q] at g3; exact g3
            | some dd =>
              rw [q] at g3
              obtain ⟨pq, vq, k1, k2, k3, k4⟩ := g3
              exact ⟨pq, vq, k1, xa _ _ k2, fun z => k3 (oo_cut pq z), (k4.ext xa).weak oo_cut⟩)
        have R4 := R3.setN (i := i) (o := none) (by
          rw [look_put_ne hl.2.2, look_put]
          intro d e
          split at e
          · cases e
          · exact npar_of hl.1 d e)
        exact d _ _ _ R4 ((x'.trans (.ext xa)).trans ((evo_cut.trans evo_cut).trans evo_cut))
      · rw [if_neg hl] at d; exact d.elim⟩
/-! ### what is asked of a caught error -/
/-- x is None, x is not None: a datum or an error -/
def isNS (neg : Bool) (ρ : Ev) : Sl → Ro RV
  | .scr _ => .ok (.shr (.bool neg)) ρ
  | .dat d _ => .ok (.shr (.bool (if neg then !isNone d else isNone d))) ρ
  | .non => .bad
def eIsN (i : Nat) (neg : Bool) : EvE := fun ρ => isNS neg ρ (look ρ i)
theorem isn_ok {i : Nat} {neg : Bool} (R : Rep G Z B σ H ρ A) (d : Done G W Z B σ (pE G Z B σ Q) H A (eIsN i neg ρ)) : ∃ v, σ[i]? = some (some v) ∧ Q (.bl (if neg then !decide (v = .non) else decide (v = .non))) H := by
  have q := R.at_ i
  unfold eIsN at d
  cases l : look ρ i with
  | non => rw [l] at d; exact d.elim
  | scr t =>
    rw [l] at d q
    obtain ⟨a, h1, _⟩ := q
    refine ⟨_, h1, ?_⟩
    have : (if neg then !decide (V.ref a = V.non) else decide (V.ref a = V.non)) = neg := by cases neg <;> rfl
    rw [this]
    exact d _ H A R .refl (.bl neg)
  | dat c k =>
    rw [l] at d q
    have key : ∀ v, σ[i]? = some (some v) → Vw (Oo Z A) H v c → ∃ v, σ[i]? = some (some v) ∧ Q (.bl (if neg then !decide (v = .non) else decide (v = .non))) H := fun v hv hw => ⟨v, hv, by
      rw [vw_none hw]
      exact d _ H A R .refl (.bl _)⟩
    cases k with
    | frz => obtain ⟨v, h1, h2⟩ := q; exact key v h1 h2.vw
    | own => obtain ⟨a, _, h1, h2⟩ := q; exact key _ h1 h2.vw
    | par => obtain ⟨a, _, _, h1, h2⟩ := q; exact key _ h1 h2.vw
theorem de_isN {i : Nat} {x : Str} {px pos : Pos} {j p2} (hv : PE X (.Name x px) (tVar i)) : DE X G W (.Compare (.Name x px) [.Is] [.Constant .none j p2] pos) (eIsN i false) :=
  ⟨PE_imp (pe_cmpR op_isN hv pe_non (nomark _)) fun σ H Q ⟨Z, B, ρ, A, R, d⟩ => let ⟨v, h1, h2⟩ := isn_ok R d; ⟨v, h1, rfl, h2⟩⟩
theorem de_isNN {i : Nat} {x : Str} {px pos : Pos} {j p2} (hv : PE X (.Name x px) (tVar i)) : DE X G W (.Compare (.Name x px) [.IsNot] [.Constant .none j p2] pos) (eIsN i true) :=
  ⟨PE_imp (pe_cmpR op_notN hv pe_non (nomark _)) fun σ H Q ⟨Z, B, ρ, A, R, d⟩ => let ⟨v, h1, h2⟩ := isn_ok R d; ⟨v, h1, rfl, h2⟩⟩
end
end DL

namespace DL
open PySem PySem.Spec PyProof.Rows L2
section
variable {X : Cx} {G : Gm} {W : Wi} {Z Z' : Ow} {B A A1 A2 A0 : Nat → Option Addr} {σ σ1 : L2.St} {H H1 H2 H0 : Hp} {ρ ρ1 ρ2 : Ev} {Q : VK} {v : V} {r : RV}
/-! ### isinstance of a caught error -/
/-- the object of a kept error, as the library sees it -/
theorem err_inst {O : Ow} {a : Addr} {x : Ex} {C : Addr} {pins : List (Addr × Obj)} {s : Shared} {pd : Option Addr} (I : Inv X pins σ H s) (g2 : H a = some (EO (.ref C) pd a)) (g4 : match x.d with
  | none => pd = none
  | some d => ∃ q v, pd = some q ∧ H q = some (.xd [(G.fld x.c, v)]) ∧ ¬ O q ∧ Fz O H v d) : ∃ oe od, PySem.W.InstAt s.heap a oe C od := by
  obtain ⟨oe, vs, e1, e2, e3, e4⟩ := eo_at I.hok g2
  have no : PySem.W.notCls oe = true := by unfold PySem.W.notCls; rw [e4] <;> rfl
  cases pd with
  | none => exact ⟨oe, none, e1, e2, no, by rw [e3]; trivial⟩
  | some q =>
    cases q1 : x.d with
    | none => rw [q1] at g4; cases g4
    | some d =>
      rw [q1] at g4
      obtain ⟨q', v, h1, h2, _⟩ := g4
      cases h1
      obtain ⟨mA, ⟨o, es, ep, ho, _⟩, _⟩ := (show ObjOk X.prog X.w H s.heap q (.xd [(G.fld x.c, v)]) from I.hok q _ h2)
      exact ⟨oe, some o, e1, e2, no, by rw [e3]; exact ho⟩
theorem err_kit {O : Ow} {a : Addr} {x : Ex} {C : Addr} {pd : Option Addr} (T : L2.ExcC X.K C) (g2 : H a = some (EO (.ref C) pd a)) (g4 : match x.d with
  | none => pd = none
  | some d => ∃ q v, pd = some q ∧ H q = some (.xd [(G.fld x.c, v)]) ∧ ¬ O q ∧ Fz O H v d) : KitP X H (.ref a) (.ref C) := fun pins σ s u I r => by
  cases (show u = Value.ref a from r)
  obtain ⟨oe, od, J⟩ := err_inst (G := G) I g2 g4
  have hcl : (PySem.W.clsIn X.K C).isSome = true := by
    obtain ⟨cd, hc, _⟩ := PySem.W.any_some T.hd
    rw [hc]; rfl
  exact ⟨_, PySem.W.kitx_exc hcl T.hg T.hk T.hs T.ha T.hn T.ht T.hm, J, fun z => nomatch z⟩
def errIR (isb : String → Bool) (ρ : Ev) : Sl → Ro RV
  | .scr (.err x) => .ok (.shr (.bool (isb x.c))) ρ
  | _ => .bad
def eErrI (i : Nat) (isb : String → Bool) : EvE := fun ρ => errIR isb ρ (look ρ i)
/-- the slot holds an error -/
theorem err_at {i : Nat} {isb : String → Bool} (R : Rep G Z B σ H ρ A) (d : Done G W Z B σ (pE G Z B σ Q) H A (eErrI i isb ρ)) : ∃ a x, σ[i]? = some (some (.ref a)) ∧ ErrR G (Oo Z A) H a x ∧ ∀ H', Ext H H' → Q (.bl (isb x.c)) H' := by
  have q := R.at_ i
  unfold eErrI at d
  cases l : look ρ i with
  | non => rw [l] at d; exact d.elim
  | dat _ _ => rw [l] at d; exact d.elim
  | scr t =>
    rw [l] at d q
    rcases t with ns | x | _
    · exact d.elim
    · obtain ⟨a, h1, h2⟩ := q
      exact ⟨a, x, h1, h2, fun H' xt => d _ H' A (R.ext xt) (.ext xt) (.bl _)⟩
    · exact d.elim
theorem de_errI {i : Nat} {x : Str} {T : Expr} {tT : TE} {cv : V} {u : Value} {isb : String → Bool} {p px pos : Pos} (hg : Gl X "isinstance") (hm : X.mg "isinstance" = none) (hv : PE X (.Name x px) (tVar i)) (hT : PE X T tT) (hr : ∀ σ H Q, Q cv H → tT σ H Q) (kc : ClsV cv u)
    (hx : ∀ c C, G.ct c = some C → L2.ExcC X.K C) (hk : ∀ c C, G.ct c = some C → PySem.W.kitOne X.K (.ref C) u = some (isb c))
    (h1 : starEach [.Name x px, T] X.env = (false, eval (.Name x px) X.env) :: starEach [T] X.env := by rfl) (h2 : starEach [T] X.env = (false, eval T X.env) :: starEach [] X.env := by rfl) (hpl : (backTo pos (starEach [T] X.env)).any (·.1) = false := by rfl) :
    DE X G W (.Call (.Name "isinstance" p) [.Name x px, T] [] pos) (eErrI i isb) :=
  ⟨PE_imp (pe_callB call_isiP hg hm PyProof.Rows.boot_isinstance (pa_cons hv (pa_cons hT pa_nil h2) h1) (by decide) (by decide) h1 hpl) fun σ H Q ⟨Z, B, ρ, A, R, d⟩ => by
    obtain ⟨a, x, e1, ⟨C, pd, g1, g2, g3, g4⟩, q⟩ := err_at R d
    exact ⟨_, e1, hr _ _ _ ⟨.ref a, cv, .ref C, u, isb x.c, rfl, kc, err_kit (G := G) (hx _ _ g1) g2 g4, hk _ _ g1, q H (.refl _)⟩⟩⟩
/-- .. with several classes -/
theorem de_errIT {i : Nat} {x : Str} {es : List Expr} {tA : TA} {cs : List V} {us : List Value} {isb : String → Bool} {p px tp pos : Pos} {k : Nat} (hg : Gl X "isinstance") (hm : X.mg "isinstance" = none) (hv : PE X (.Name x px) (tVar i)) (hT : PA X es tA) (hr : ∀ σ H Q, Q cs H → tA σ H Q) (kc : Paired ClsV cs us) (hl : cs.length ≤ 15)
    (hx : ∀ c C, G.ct c = some C → L2.ExcC X.K C) (hk : ∀ c C, G.ct c = some C → PySem.W.kitAny X.K (.ref C) us = some (isb c))
    (h1 : starEach [.Name x px, .Tuple es k tp] X.env = (false, eval (.Name x px) X.env) :: starEach [.Tuple es k tp] X.env := by rfl) (h2 : starEach [.Tuple es k tp] X.env = (false, eval (.Tuple es k tp) X.env) :: starEach [] X.env := by rfl) (hpl : (backTo pos (starEach [.Tuple es k tp] X.env)).any (·.1) = false := by rfl) :
    DE X G W (.Call (.Name "isinstance" p) [.Name x px, .Tuple es k tp] [] pos) (eErrI i isb) :=
  ⟨PE_imp (pe_callB call_isiTP hg hm PyProof.Rows.boot_isinstance (pa_cons hv (pa_cons (pe_tup hT) pa_nil h2) h1) (by decide) (by decide) h1 hpl) fun σ H Q ⟨Z, B, ρ, A, R, d⟩ => by
    obtain ⟨a, x, e1, ⟨C, pd, g1, g2, g3, g4⟩, q⟩ := err_at R d
    refine ⟨_, e1, hr _ _ _ ⟨by rw [sizeLine_eq]; omega, fun t nt => ?_⟩⟩
    have xt : Ext H (upd H t (.tup cs)) := .new nt
    have E : ErrR G (fun _ => False) (upd H t (.tup cs)) a x := ErrR.mono xt.kp (fun b z => z.elim) ⟨C, pd, g1, g2, g3, g4⟩
    obtain ⟨C', pd', k1, k2, k3, k4⟩ := E
    rw [g1] at k1; cases k1
    exact ⟨.ref a, t, cs, .ref C, us, isb x.c, rfl, upd_same, kc, err_kit (G := G) (hx _ _ g1) k2 k4, hk _ _ g1, q _ xt⟩⟩
/-! ### its attribute -/
def errAR (cs : List String) (ρ : Ev) : Sl → Ro RV
  | .scr (.err ⟨c, some d⟩) => if cs.contains c = true then .ok (.shr d) ρ else .bad
  | _ => .bad
def eErrA (i : Nat) (cs : List String) : EvE := fun ρ => errAR cs ρ (look ρ i)
def tErrA (K : PySem.W.Frag) (i : Nat) (f : Str) : TE := fun σ H Q => ∃ (a C q : Addr) (v : V), σ[i]? = some (some (.ref a)) ∧ H a = some (EO (.ref C) (some q) a) ∧ H q = some (.xd [(f, v)]) ∧ L2.XfC K C ∧ PySem.W.findIn K (.ref C) f = some none ∧ Q v H
theorem pe_errA {i : Nat} {x f : Str} {px pos : Pos} (hv : PE X (.Name x px) (tVar i)) (hb : attributeBase (.Name x px) f X.env (eval (.Name x px) X.env) = eval (.Name x px) X.env := by rfl) : PE X (.Attribute (.Name x px) f pos) (tErrA X.K i f) := ⟨fun pins s σ H Q I ⟨a, C, q, v, e1, e2, e3, T, hno, hq⟩ => by
  refine attr_of hb (thn (hv.run pins s σ H (fun y H1 => y = .ref a ∧ H1 = H) I ⟨_, e1, rfl, rfl⟩) fun u s1 ⟨y, H1, I1, ru, ey, eH⟩ => ?_)
  subst ey; subst eH
  obtain rfl : u = Value.ref a := ru
  obtain ⟨oe, vs, k1, k2, k3, k4⟩ := eo_at I1.hok e2
  obtain ⟨mA, hns, hrel⟩ := (show ObjOk X.prog X.w H1 s1.heap q (.xd [(f, v)]) from I1.hok q _ e3)
  obtain ⟨od, ho, hl⟩ := lookIn_ns hns
  obtain ⟨w, hw, rw_⟩ := RelO.some_of (v := v) (o := mA f) (by have := hrel f; rw [lookup_put, if_pos rfl] at this; exact this)
  have J : PySem.W.InstAt s1.heap a oe C (some od) := ⟨k1, k2, by unfold PySem.W.notCls; rw [k4] <;> rfl, by rw [k3]; exact ho⟩
  exact HandSPX.exc_get I1.kIn J T.ga T.gg T.exC (PySem.W.findObj_own T.hdC hno rfl (by rw [hl, hw])) (handed_of rw_) ⟨v, H1, I1.tok _, rw_, hq⟩⟩
theorem de_errA {i : Nat} {x : Str} {f : String} {cs : List String} {px pos : Pos} (hv : PE X (.Name x px) (tVar i)) (hx : ∀ c C, G.ct c = some C → cs.contains c = true → G.fld c = (f : Str) ∧ L2.XfC X.K C ∧ PySem.W.findIn X.K (.ref C) f = some none)
    (hb : attributeBase (.Name x px) f X.env (eval (.Name x px) X.env) = eval (.Name x px) X.env := by rfl) : DE X G W (.Attribute (.Name x px) f pos) (eErrA i cs) :=
  ⟨PE_imp (pe_errA hv hb) fun σ H Q ⟨Z, B, ρ, A, R, d⟩ => by
    have q := R.at_ i
    unfold eErrA at d
    cases l : look ρ i with
    | non => rw [l] at d; exact d.elim
    | dat _ _ => rw [l] at d; exact d.elim
    | scr t =>
      rw [l] at d q
      rcases t with ns | ⟨c, dd⟩ | _
      rotate_left 2
      · exact d.elim
      · exact d.elim
      · cases dd with
        | none => exact d.elim
        | some dd =>
          obtain ⟨a, h1, C, pd, g1, g2, g3, g4⟩ := q
          have d : Done G W Z B σ (pE G Z B σ Q) H A (if cs.contains c = true then .ok (.shr dd) ρ else .bad) := d
          by_cases hc : cs.contains c = true
          · rw [if_pos hc] at d
            obtain ⟨k1, k2, k3⟩ := hx c C g1 hc
            obtain ⟨p, v, j1, j2, j3, j4⟩ := g4
            subst j1
            exact ⟨a, C, p, v, h1, g2, by rw [j2]; show some (HO.xd [(G.fld c, v)]) = _; rw [k1], k2, k3, d v H A R .refl j4⟩
          · rw [if_neg hc] at d; exact d.elim⟩
end
/-! equations -/
theorem eErrI_ {i : Nat} {isb : String → Bool} {ρ : Ev} : eErrI i isb ρ = errIR isb ρ (look ρ i) := rfl
theorem errIR_ {isb : String → Bool} {ρ : Ev} {x : Ex} : errIR isb ρ (.scr (.err x)) = .ok (.shr (.bool (isb x.c))) ρ := rfl
theorem eErrA_ {i : Nat} {cs : List String} {ρ : Ev} : eErrA i cs ρ = errAR cs ρ (look ρ i) := rfl
theorem errAR_ {cs : List String} {ρ : Ev} {c : String} {d : PyData} : errAR cs ρ (.scr (.err ⟨c, some d⟩)) = if cs.contains c = true then .ok (.shr d) ρ else .bad := rfl
theorem eIsN_ {i : Nat} {neg : Bool} {ρ : Ev} : eIsN i neg ρ = isNS neg ρ (look ρ i) := rfl
theorem isNS_err {neg : Bool} {ρ : Ev} {t : Th} : isNS neg ρ (.scr t) = .ok (.shr (.bool neg)) ρ := rfl
theorem isNS_dat {neg : Bool} {ρ : Ev} {d : PyData} {k : Kd} : isNS neg ρ (.dat d k) = .ok (.shr (.bool (if neg then !isNone d else isNone d))) ρ := rfl
theorem isNone_none : isNone .none = true := rfl
theorem isNone_bool {b : Bool} : isNone (.bool b) = false := rfl
theorem isNone_int {b : Int} : isNone (.int b) = false := rfl
theorem isNone_str {b : Str} : isNone (.str b) = false := rfl
theorem isNone_list {b : List PyData} : isNone (.list b) = false := rfl
theorem isNone_tuple {b : List PyData} : isNone (.tuple b) = false := rfl
theorem isNone_dict {b : List (PyData × PyData)} : isNone (.dict b) = false := rfl
end DL

namespace DL
open PySem PySem.Spec PyProof.Rows L2
/-! ### what a computation must bring, where errors may leave it -/
def Wx {α : Type} (r : Ro α) (Q : α → Ev → Prop) (R : Ex → Ev → Prop) (_ : U Q) : Prop := match r with
  | .ok a ρ => Q a ρ
  | .exc x ρ => R x ρ
  | .bad => False
theorem Wx.of {α : Type} {r : Ro α} {Q : α → Ev → Prop} {R : Ex → Ev → Prop} {u v : U Q} (h : Wp r Q u) : Wx r Q R v := by
  obtain ⟨a, ρ, rfl, q⟩ := h
  exact q
theorem Wx.wp {α : Type} {r : Ro α} {Q : α → Ev → Prop} {u v : U Q} (h : Wx r Q (fun _ _ => False) u) : Wp r Q v := by
  cases r with
  | ok a ρ => exact ⟨a, ρ, rfl, h⟩
  | exc _ _ => exact h.elim
  | bad => exact h.elim
theorem Wx.mono {α : Type} {r : Ro α} {Q Q' : α → Ev → Prop} {R R' : Ex → Ev → Prop} {u : U Q} {v : U Q'} (h : Wx r Q R u) (i : ∀ a ρ, Q a ρ → Q' a ρ) (j : ∀ x ρ, R x ρ → R' x ρ) : Wx r Q' R' v := by
  cases r with
  | ok a ρ => exact i a ρ h
  | exc x ρ => exact j x ρ h
  | bad => exact h.elim
theorem wx_bind {α β : Type} {x : Ro α} {f : α → Ev → Ro β} {Q : β → Ev → Prop} {R : Ex → Ev → Prop} {v : U Q} : Wx (x.bind f) Q R v = Wx x (fun a ρ => Wx (f a ρ) Q R ⟨⟩) R ⟨⟩ := by cases x <;> rfl
theorem wx_bU {α β : Type} {x : Ro α} {f : α → Ev → Ro β} {u : U f} {Q : β → Ev → Prop} {R : Ex → Ev → Prop} {v : U Q} : Wx (bU x f u) Q R v = Wx x (fun a ρ => Wx (f a ρ) Q R ⟨⟩) R ⟨⟩ := wx_bind
theorem wx_ok {α : Type} {a : α} {ρ : Ev} {Q : α → Ev → Prop} {R : Ex → Ev → Prop} {v : U Q} : Wx (.ok a ρ) Q R v = Q a ρ := rfl
theorem wx_exc {α : Type} {x : Ex} {ρ : Ev} {Q : α → Ev → Prop} {R : Ex → Ev → Prop} {v : U Q} : Wx (.exc x ρ : Ro α) Q R v = R x ρ := rfl
theorem wx_if {α : Type} {c : Prop} [Decidable c] {x y : Ro α} {Q : α → Ev → Prop} {R : Ex → Ev → Prop} {v : U Q} : Wx (if c then x else y) Q R v = if c then Wx x Q R ⟨⟩ else Wx y Q R ⟨⟩ := by
  by_cases h : c
  · rw [if_pos h, if_pos h]
  · rw [if_neg h, if_neg h]
/-- behind a call: the lists handed over are the caller's again -/
def keepX (R : Ex → Ev → Prop) (rs : List RV) (ρ : Ev) (x : Ex) (os : Ev) : Prop := oW (backs ρ rs os) (R x) .mk
theorem wx_callR {np : Nat} {F : FnD} {rs : List RV} {ρ : Ev} {Q : RV → Ev → Prop} {R : Ex → Ev → Prop} {v : U Q} (h : rs.length = np) (h2 : nodupB (refIx ρ rs) = true) (k : Wx (F (rs.map (argOf ρ))) (keepR Q rs ρ) (keepX R rs ρ) ⟨⟩) : Wx (callR np F rs ρ) Q R v := by
  unfold callR
  rw [if_pos h, if_pos h2]
  cases e : F (rs.map (argOf ρ)) with
  | bad => rw [e] at k; exact k.elim
  | ok r os =>
    rw [e] at k
    cases r with
    | var _ => exact k.elim
    | shr d =>
      have k : oW (backs ρ rs os) (Q (.shr d)) .mk := k
      cases q : backs ρ rs os with
      | none => rw [q, oW_none] at k; exact k.elim
      | some ρ2 => rw [q, oW_some] at k; simp only [q]; exact k
    | tmp d =>
      have k : oW (backs ρ rs os) (Q (.tmp d)) .mk := k
      cases q : backs ρ rs os with
      | none => rw [q, oW_none] at k; exact k.elim
      | some ρ2 => rw [q, oW_some] at k; simp only [q]; exact k
  | exc x os =>
    rw [e] at k
    have k : oW (backs ρ rs os) (R x) .mk := k
    cases q : backs ρ rs os with
    | none => rw [q, oW_none] at k; exact k.elim
    | some ρ2 => rw [q, oW_some] at k; simp only [q]; exact k
/-- the def's body is run -/
theorem def_wx {np n : Nat} {body : EvS} {args : Ev} {Q : RV → Ev → Prop} {R : Ex → Ev → Prop} {v : U Q} (hl : args.length = np) (h : Wx (body (args ++ List.replicate (n - np) .non)) (fR np Q) (fun x ρ => R x (outs np ρ)) ⟨⟩) : Wx (defG true np n body args) Q R v := by
  show Wx (defF np n body args) Q R ⟨⟩
  unfold defF
  rw [if_pos hl]
  cases e : body (args ++ List.replicate (n - np) .non) with
  | bad => rw [e] at h; exact h.elim
  | exc x ρ => rw [e] at h; exact h
  | ok f ρ =>
    rw [e] at h
    cases f with
    | nx => exact h
    | ret r => exact h
    | brk => exact h.elim
    | ct => exact h.elim
theorem wp_try {i j : Nat} {b : EvS} {ρ : Ev} {Q : Fl → Ev → Prop} {v : U Q} (h : Wx (b ρ) Q (fun x ρ1 => (settable (look ρ1 i) = true ∧ settable (look ρ1 j) = true ∧ i ≠ j) ∧ Q .nx (put (put (put ρ1 i .non) j (.scr (.err x))) i .non)) ⟨⟩) : Wp (sTry i j b ρ) Q v := by
  unfold sTry
  cases e : b ρ with
  | bad => rw [e] at h; exact h.elim
  | ok f ρ1 => rw [e] at h; exact ⟨f, ρ1, rfl, h⟩
  | exc x ρ1 =>
    rw [e] at h
    refine ⟨.nx, _, ?_, h.2⟩
    show tryX i j x ρ1 = _
    unfold tryX
    rw [if_pos h.1]
/-- a raise -/
theorem wx_raise {c : String} {a : EvE} {ρ : Ev} {Q : Fl → Ev → Prop} {R : Ex → Ev → Prop} {v : U Q} (h : Wp (eEsc a ρ) (fun r ρ1 => shrW (fun d => R ⟨c, some d⟩ ρ1) r) ⟨⟩) : Wx (sRaise c a ρ) Q R v := by
  obtain ⟨r, ρ1, e, q⟩ := h
  unfold sRaise
  rw [e]
  cases r with
  | shr d => exact q
  | tmp _ => exact q.elim
  | var _ => exact q.elim
/-- first s, that lets no error out -/
theorem wx_seq {s r : EvS} {ρ : Ev} {Q : Fl → Ev → Prop} {R : Ex → Ev → Prop} {v : U Q} (h : Wp (s ρ) (fun f ρ1 => Wx (goOn r ρ1 f) Q R ⟨⟩) ⟨⟩) : Wx (sSeq s r ρ) Q R v := by
  obtain ⟨f, ρ1, e, q⟩ := h
  rw [sSeq_, e]
  exact q
/-- first s, that may let one out -/
theorem wx_seqX {s r : EvS} {ρ : Ev} {Q : Fl → Ev → Prop} {R : Ex → Ev → Prop} {v : U Q} (h : Wx (s ρ) (fun f ρ1 => Wx (goOn r ρ1 f) Q R ⟨⟩) R ⟨⟩) : Wx (sSeq s r ρ) Q R v := by
  rw [sSeq_, wx_bind]; exact h
theorem wx_sif {c : EvT} {a b : EvS} {ρ : Ev} {Q : Fl → Ev → Prop} {R : Ex → Ev → Prop} {v : U Q} (h : Wp (c ρ) (fun k ρ1 => if k = true then Wx (a ρ1) Q R ⟨⟩ else Wx (b ρ1) Q R ⟨⟩) ⟨⟩) : Wx (sIf c a b ρ) Q R v := by
  obtain ⟨k, ρ1, e, q⟩ := h
  show Wx ((c ρ).bind fun k ρ1 => if k = true then a ρ1 else b ρ1) Q R ⟨⟩
  rw [e]
  cases k <;> exact q
/-- a loop -/
theorem wx_forL {g : EvG} {b : EvS} {Q : Fl → Ev → Prop} {R : Ex → Ev → Prop} (I : Nat → Ev → Prop) : ∀ (its : List PyData) {ρ : Ev} {v : U Q}, I 0 ρ →
    (∀ i d ρ, its[i]? = some d → I i ρ → gW g d ρ (fun ρ1 => Wx (b ρ1) (Kf (I (i + 1)) (Q .nx) (fun r ρ2 => Q (.ret r) ρ2)) R ⟨⟩) ⟨⟩) → (∀ ρ, I its.length ρ → Q .nx ρ) → Wx (forL g b its ρ) Q R v := by
  intro its
  induction its generalizing I with
  | nil => intro ρ v h0 _ fin; exact fin ρ h0
  | cons d ds ih =>
    intro ρ v h0 step fin
    obtain ⟨ρ1, e, w⟩ := step 0 d ρ rfl h0
    unfold forL
    rw [e]
    show Wx ((b ρ1).bind _) Q R ⟨⟩
    rw [wx_bind]
    refine w.mono (fun f ρ2 q => ?_) fun _ _ q => q
    cases f with
    | nx => exact ih (fun i => I (i + 1)) q (fun i d' ρ' h => step (i + 1) d' ρ' (by simpa using h)) fin
    | ct => exact ih (fun i => I (i + 1)) q (fun i d' ρ' h => step (i + 1) d' ρ' (by simpa using h)) fin
    | brk => exact q
    | ret r => exact q
/-! a def of the text, where errors may leave it -/
theorem ok_defX {P : Program} {w : World} {K : PySem.W.Frag} {mg : Str → Option Value} {base : Heap} {G : Gm} {k : Nat} {f : Addr} {fd : FuncData} {N ps : List Str} {name qual : Str} {st : Stmt} {body : EvS} (F : Fun K name qual st f fd) (S : FnScope N ps (defScope st))
    (hb : ∀ (cdv : Value) (A : Around) (outer : List Env) (s : Shared) (H : Hp) (E : XK), Room k (A.deeper (envOfC qual (defScope st) s.heap.objs.size f cdv)) → A.guards = some [] →
      DSs (cxOf (L2.CX P w) P w K mg base N qual (defScope st) f cdv A outer s H E) G (fun cv dx _ H' => E cv dx H') (defBody st) body) :
    FnG P w K mg base (L2.CX P w) (k + 1) f fd ps (spD G ps.length (defG true ps.length N.length body)) := ok_def F S hb
/-- a call where errors go on; one where none may leave -/
theorem patX {X : Cx} {W : WX} (tk : Takes X W) : ∀ σ, PassesAt (L2.CX X.prog X.w) X σ (fun cv dx H' => W cv dx σ H') := fun σ => passAt tk σ
theorem patF {X : Cx} {σ : L2.St} : PassesAt (L2.CX X.prog X.w) X σ (fun cv dx H' => Wn cv dx σ H') := fun _ _ _ _ _ _ ⟨_, _, _, _, _, _, _, _, _, _, _, _, z⟩ => z.elim
/-- a fact of each class of a list -/
def AllC : List (String × Addr) → (String → Addr → Prop) → Prop
  | [], _ => True
  | p :: r, P => P p.1 p.2 ∧ AllC r P
theorem AllC.get {P : String → Addr → Prop} : ∀ {l : List (String × Addr)}, AllC l P → ∀ c C, l.lookup c = some C → P c C
  | [], _, c, C, h => nomatch h
  | (a, A) :: r, ⟨h1, h2⟩, c, C, h => by
    by_cases e : c = a
    · subst e
      rw [List.lookup_cons_self] at h
      cases h; exact h1
    · have e' : (c == a) = false := by simpa using e
      rw [List.lookup_cons, e'] at h
      exact h2.get c C h
abbrev gmE (K : PySem.W.Frag) (l : List (String × Addr)) (fs : String → String) : Gm := ⟨K, fun c => l.lookup c, fun c => fs c, [], none⟩
/-- the first statement of a class -/
def clsBody : Stmt → Stmt
  | .ClassDef (body := b) .. => b.getD 0 (.Pass ⟨0, 0, 0, 0⟩)
  | s => s
/-- the end, where the classes of errors stand only in the text's facts -/
theorem walk_GX {l : PySem.W.OpenLaw} {n k : Nat} {q : Program} {loose : List Str} {XP : (Str → Option Value) → Heap → Prop} {YP : World → Heap → Prop} {d : DefRec} {K : Params → PySem.W.Frag} {CX : World → CXT} {F : FnD} {x : Str}
    (hn : l.most = some n) (hn2 : n ≤ sizeLine) (hdf : d.params.defaults = []) (hr : Room k callerA) (hY : ∀ (w : World) (h : Heap), YP w h → (K w.params).In h)
    (hF : ∀ (w : World) (mg : Str → Option Value) (fa : Addr) (h : Heap), (K w.params).In h → h.Ns mainGlobals mg → mg d.name = some (.ref fa) →
      ∃ (fd : FuncData) (G : Gm), G.K = K w.params ∧ (G.T = [] ∧ G.tk = none) ∧ (∀ (s : Shared) (u : Value), BindsTo s fd ⟨[u], []⟩ [(x, u)]) ∧ ∀ base : Heap, (K w.params).In base → base.Ns mainGlobals mg → NoDig base → FnG l.prog w (K w.params) mg base (CX w) k fa fd [x] (spD G 1 F))
    (hlaw : ∀ ns : List Int, ns.length ≤ n → (∀ m ∈ ns, bits m ≤ 1048576) → ∃ ρ, F [.scr (.nums ns)] = .ok (.shr (.bool true)) ρ)
    (hCX : ∀ (w : World) (H : Hp) (s : Shared) (e : Value) (s' : Shared), CX w [] H s (fun _ _ _ => False) e s' → False) :
    PySem.W.WalkO q loose XP YP l.row.toRowW d [] (fun f vs => PySem.call f vs) := by
  refine Att.attach_callB hn hdf fun w s₀ s₁ mg mb fa o pm cd doc a vs ns Gr Y ho hd hcd hmg hobj hints hlen hbits hg => ?_
  have KX := hY w _ Y
  obtain ⟨fd, G, hGK, hT, hb, hFn⟩ := hF w mg fa _ KX Gr.T.g hmg
  refine law_callG KX Gr.T.g Gr.T.b Gr.T.builtins Gr.T.nolimit hg hobj hints (Nat.le_trans hlen hn2) hr Gr.T.nodigits hFn hb (fun H hs => ?_) fun H e s' => hCX w H s₁ e s'
  refine ⟨rfl, fun _ => False, fun _ => none, [.scr (.nums ns)], ⟨rfl, fun i => ?_, fun i j b e => (by cases e), fun i b e => (by cases e), fun b z => z.elim, fun i b e => (by cases e), fun i b e => (by cases e), ⟨by rw [hT.1]; exact fun p hp => (by cases hp), fun T e => (by rw [hT.2] at e; cases e)⟩⟩, ?_⟩
  · match i with
    | 0 => exact ⟨a, rfl, show ScrR G.K _ _ _ _ by rw [hGK]; exact hs.mono kp0 fun b z => z.elim False.elim fun ⟨j, e⟩ => (by cases e)⟩
    | i + 1 => trivial
  · obtain ⟨ρ, e⟩ := hlaw ns hlen (fun m hm => by
      have h := hbits m hm
      unfold Builtin.Int.intBits at h
      unfold bits
      split at h <;> rename_i h0
      · have e0 : m = 0 := by simpa using h0
        subst e0; decide
      · omega)
    rw [e]
    intro v H' _ _ f
    cases f
    rfl
end DL

namespace DL
open PySem PySem.Spec PyProof.Rows L2
/-! ### pop, extend -/
def popR (ds : List PyData) (i : Int) : Option PyData → Option (List PyData × PyData)
  | some d => some (ds.eraseIdx i.toNat, d)
  | none => none
def gPopAt : GM := fun ds es => match es with
  | [.int i] => if 0 ≤ i ∧ i < 9223372036854775808 then popR ds i ds[i.toNat]? else none
  | _ => none
def gPop : GM := fun ds es => match es with
  | [] => popR ds ((ds.length - 1 : Nat) : Int) ds[ds.length - 1]?
  | _ => none
def gExtend : GM := fun ds es => match es with
  | [.list zs] => if ds.length + zs.length ≤ lim then some (ds ++ zs, .none) else none
  | _ => none
theorem mut_popAt : MutS rPopAt gPopAt := by
  intro O H a xs ds vs es ds' c Q ha fx fe e k
  unfold gPopAt at e
  match es, fe, e with
  | [.int i], .cons p .nil, e =>
    cases p
    by_cases hi : 0 ≤ i ∧ i < 9223372036854775808
    · simp only [if_pos hi] at e
      cases q : ds[i.toNat]? with
      | none => rw [q] at e; cases e
      | some d =>
        rw [q] at e
        cases e
        obtain ⟨v, h1, h2⟩ := fx.get q
        have hl : i.toNat < xs.length := (List.getElem?_eq_some_iff.mp h1).1
        refine ⟨a, xs, i, i.toNat, v, rfl, rfl, ha, by omega, by omega, ?_, h1, k _ _ (fx.eraseIdx i.toNat) h2⟩
        have ni : ¬ i < 0 := by omega
        unfold seqIndex?
        simp only [if_neg ni]
        rw [if_pos (by rw [Bool.and_eq_true]; exact ⟨decide_eq_true hi.1, decide_eq_true (by omega)⟩)]
    · simp only [if_neg hi] at e; cases e
  | [], fe, e => cases e
  | [.none], fe, e => cases e
  | [.bool _], fe, e => cases e
  | [.str _], fe, e => cases e
  | [.list _], fe, e => cases e
  | [.tuple _], fe, e => cases e
  | [.dict _], fe, e => cases e
  | d :: _ :: _, fe, e => cases d <;> cases e
theorem mut_pop : MutS rPop gPop := by
  intro O H a xs ds vs es ds' c Q ha fx fe e k
  unfold gPop at e
  match es, fe, e with
  | [], .nil, e =>
    cases q : ds[ds.length - 1]? with
    | none => simp only [q] at e; cases e
    | some d =>
      simp only [q] at e
      cases e
      obtain ⟨v, h1, h2⟩ := fx.get q
      have hl := fx.len
      refine ⟨a, xs, v, rfl, rfl, ha, by rw [hl]; exact h1, ?_⟩
      have f := fx.eraseIdx (ds.length - 1)
      rw [show xs.eraseIdx (ds.length - 1) = xs.dropLast by rw [← hl, List.eraseIdx_length_sub_one]] at f
      rw [Int.toNat_natCast] at k
      exact k _ _ f h2
  | _ :: _, fe, e => cases e
theorem mut_extend : MutS rExtend gExtend := by
  intro O H a xs ds vs es ds' c Q ha fx fe e k
  unfold gExtend at e
  match es, fe, e with
  | [.list zs], .cons p .nil, e =>
    by_cases hl : ds.length + zs.length ≤ lim
    · simp only [if_pos hl] at e
      cases e
      cases p with
      | lst hb nb fz => exact ⟨a, _, xs, _, rfl, rfl, ha, hb, by rw [fx.len, fz.len, ← lim_eq]; exact hl, k _ _ (fx.append fz) .non⟩
    · simp only [if_neg hl] at e; cases e
  | [], fe, e => cases e
  | [.none], fe, e => cases e
  | [.bool _], fe, e => cases e
  | [.int _], fe, e => cases e
  | [.str _], fe, e => cases e
  | [.tuple _], fe, e => cases e
  | [.dict _], fe, e => cases e
  | d :: _ :: _, fe, e => cases d <;> cases e
theorem o_popAt {ds : List PyData} {i : Int} : gPopAt ds [.int i] = if 0 ≤ i ∧ i < 9223372036854775808 then popR ds i ds[i.toNat]? else none := rfl
theorem o_pop {ds : List PyData} : gPop ds [] = popR ds ((ds.length - 1 : Nat) : Int) ds[ds.length - 1]? := rfl
theorem popR_ {ds : List PyData} {i : Int} {d : PyData} : popR ds i (some d) = some (ds.eraseIdx i.toNat, d) := rfl
theorem o_extend {ds zs : List PyData} : gExtend ds [.list zs] = if ds.length + zs.length ≤ 16777216 then some (ds ++ zs, .none) else none := rfl
/-! equations where errors may leave -/
theorem sRaise_ {c : String} {a : EvE} {ρ : Ev} : sRaise c a ρ = (eEsc a ρ).bind fun r ρ1 => raiseR c ρ1 r := rfl
theorem raiseR_ {c : String} {ρ : Ev} {d : PyData} : raiseR c ρ (.shr d) = .exc ⟨c, some d⟩ ρ := rfl
theorem wx_C {np : Nat} {F : FnD} {a : EvA} {ρ : Ev} {Q : RV → Ev → Prop} {R : Ex → Ev → Prop} {v : U Q} : Wx (eC_ np F a ρ) Q R v = Wx (a ρ) (fun rs ρ1 => Wx (callR np F rs ρ1) Q R ⟨⟩) R ⟨⟩ := wx_bind
theorem wx_Ck {np : Nat} {pi : List Nat} {F : FnD} {a : EvA} {ρ : Ev} {Q : RV → Ev → Prop} {R : Ex → Ev → Prop} {v : U Q} : Wx (eCk np pi F a ρ) Q R v = Wx (a ρ) (fun rs ρ1 => rs.length = np ∧ Wx (callR np F (permL rs pi) ρ1) Q R ⟨⟩) R ⟨⟩ := by
  refine wx_bind.trans ?_
  cases a ρ with
  | ok rs ρ1 =>
    show Wx (if rs.length = np then callR np F (permL rs pi) ρ1 else .bad) Q R ⟨⟩ = (rs.length = np ∧ _)
    by_cases h : rs.length = np
    · rw [if_pos h]; exact propext ⟨fun q => ⟨h, q⟩, fun q => q.2⟩
    · rw [if_neg h]; exact propext ⟨False.elim, fun q => h q.1⟩
  | exc _ _ => rfl
  | bad => rfl
theorem wx_call {np : Nat} {F : FnD} {rs : List RV} {ρ : Ev} {Q : RV → Ev → Prop} {R : Ex → Ev → Prop} {v : U Q} : Wx (callR np F rs ρ) Q R v = (rs.length = np ∧ nodupB (refIx ρ rs) = true ∧ Wx (F (rs.map (argOf ρ))) (keepR Q rs ρ) (keepX R rs ρ) ⟨⟩) := by
  refine propext ⟨fun h => ?_, fun ⟨h1, h2, h3⟩ => wx_callR h1 h2 h3⟩
  unfold callR at h
  by_cases h1 : rs.length = np
  · rw [if_pos h1] at h
    by_cases h2 : nodupB (refIx ρ rs) = true
    · rw [if_pos h2] at h
      refine ⟨h1, h2, ?_⟩
      cases e : F (rs.map (argOf ρ)) with
      | bad => rw [e] at h; exact h.elim
      | ok r os =>
        rw [e] at h
        cases r with
        | var _ => exact h.elim
        | shr d =>
          show oW (backs ρ rs os) (Q (.shr d)) .mk
          cases q : backs ρ rs os with
          | none => simp only [q] at h; exact h.elim
          | some ρ2 => simp only [q] at h; rw [oW_some]; exact h
        | tmp d =>
          show oW (backs ρ rs os) (Q (.tmp d)) .mk
          cases q : backs ρ rs os with
          | none => simp only [q] at h; exact h.elim
          | some ρ2 => simp only [q] at h; rw [oW_some]; exact h
      | exc x os =>
        rw [e] at h
        show oW (backs ρ rs os) (R x) .mk
        cases q : backs ρ rs os with
        | none => simp only [q] at h; exact h.elim
        | some ρ2 => simp only [q] at h; rw [oW_some]; exact h
    · rw [if_neg h2] at h; exact h.elim
  · rw [if_neg h1] at h; exact h.elim
theorem keepX_ {R : Ex → Ev → Prop} {rs : List RV} {ρ os : Ev} {x : Ex} : keepX R rs ρ x os = oW (backs ρ rs os) (R x) .mk := rfl
theorem wp_tryE {i j : Nat} {b : EvS} {ρ : Ev} {Q : Fl → Ev → Prop} {v : U Q} : Wp (sTry i j b ρ) Q v = Wx (b ρ) Q (fun x ρ1 => (settable (look ρ1 i) = true ∧ settable (look ρ1 j) = true ∧ i ≠ j) ∧ Q .nx (put (put (put ρ1 i .non) j (.scr (.err x))) i .non)) ⟨⟩ := by
  refine propext ⟨fun ⟨f, ρ1, e, q⟩ => ?_, wp_try⟩
  unfold sTry at e
  cases e2 : b ρ with
  | bad => rw [e2] at e; cases e
  | ok f' ρ2 => rw [e2] at e; cases e; exact q
  | exc x ρ2 =>
    rw [e2] at e
    have e : tryX i j x ρ2 = .ok f ρ1 := e
    unfold tryX at e
    by_cases h : settable (look ρ2 i) = true ∧ settable (look ρ2 j) = true ∧ i ≠ j
    · rw [if_pos h] at e; cases e; exact ⟨h, q⟩
    · rw [if_neg h] at e; cases e
end DL

/-! DL23: xs[::-1] of lists and tuples -/
namespace DL
open PySem PySem.Spec PyProof.Rows L2
section
variable {prog : Program} {w : World} {A : Around} {E : Value → Shared → Prop} {s : Shared}
theorem adjust_rev (n : Nat) : Builtin.Slice.sliceAdjust none none (-1) (n : Int) = ((n : Int) - 1, -1) := by
  simp [Builtin.Slice.sliceAdjust]
theorem places_rev (n : Nat) : Builtin.Slice.slicePlaces ((n : Int) - 1) (-1) (-1) = n := by
  unfold Builtin.Slice.slicePlaces
  rw [if_neg (by decide)]
  by_cases h : (n : Int) - 1 > -1
  · rw [if_pos h]
    have : ((n : Int) - 1 - -1 - 1) / (- -1) = (n : Int) - 1 := by
      rw [show (- -1 : Int) = 1 by decide, Int.ediv_one]
      omega
    rw [this]
    omega
  · rw [if_neg h]
    omega
theorem filterMap_same {α β : Type} {f g : α → Option β} : ∀ {l : List α}, (∀ a ∈ l, f a = g a) → l.filterMap f = l.filterMap g
  | [], _ => rfl
  | a :: l, h => by rw [List.filterMap_cons, List.filterMap_cons, h a (List.mem_cons_self ..), filterMap_same fun b hb => h b (List.mem_cons_of_mem _ hb)]
theorem pick_rev (xs : Array Value) : ((List.range xs.size).filterMap fun (m : Nat) => xs[(((xs.size : Int) - 1) + (m : Int) * (-1)).toNat]?).toArray = xs.toList.reverse.toArray := by
  rw [← PySem.W.krv_pick]
  unfold slicePick
  rw [PySem.W.krv_bounds]
  show _ = ((sliceRange ((xs.size : Int) - 1) (-1) (-1)).filterMap (xs[·]?)).toArray
  rw [PySem.W.krv_sliceRange, List.filterMap_map]
  congr 1
  refine filterMap_same fun m hm => ?_
  have := List.mem_range.mp hm
  have e : (((xs.size : Int) - 1) + (m : Int) * (-1)).toNat = xs.size - 1 - m := by omega
  show xs[(((xs.size : Int) - 1) + (m : Int) * (-1)).toNat]? = xs[xs.size - 1 - m]?
  rw [e]
theorem getItem_tuple_rev {t sl : Addr} {items : Array Value} {vl vu vs : Value} {Q : Value → Shared → Prop} (ht : IsTup s.heap t items) (hs : s.heap.IsSliceOf sl vl vu vs) (pl : IsPart vl none) (pu : IsPart vu none) (ps : IsPart vs (some (-1)))
    (h : Q (.ref s.heap.objs.size) { s with heap := s.heap.push { cls := .type "tuple", data := .seq items.toList.reverse.toArray } })
    (hsz : items.size ≤ sizeLine) : wpAny (model prog w) A (getItem (.ref t) (.ref sl)) Q E s := by
  have htake : sizeOk (.seq items.toList.reverse.toArray) := by
    show items.toList.reverse.toArray.size ≤ sizeLine
    rw [List.size_toArray, List.length_reverse, Array.length_toList]
    omega
  obtain ⟨os, hos, hcs, hds⟩ := id hs
  have hTs : s.TypeIs (.ref sl) "slice" := ⟨os, hos, hcs⟩
  unfold getItem
  try with_reducible refine wpAny_holding ?_
  first | refine wpAny_bind (wpAny_pure ?_) | skip
  refine wpAny_bind (wpAny_sequenceKey ht.typeIs (by decide) ?_)
  refine wpAny_bind (wpAny_callSpecial?_slot (name := Str.ofString "__getitem__") ht.typeIs PyProof.Rows.slot_tuple_getitem
    (wpAny_call_entry PyProof.Rows.slot_tuple_getitem ht.typeIs entry_tuple_getitem ?_ (args_tuple_getitem _ _)))
  show wpAny _ _ (Builtin.Tuple.tupleItemsOf (.ref t) >>= _) _ _ s
  refine wpAny_bind (tupleItemsOf_ ht ?_)
  refine wpAny_bind (wpAny_typeOf hTs ?_)
  rw [if_pos (by decide)]
  have happ : ∀ {A : Around} {R : Int × Int × Nat → Shared → Prop}, R ((items.size : Int) - 1, -1, items.size) s → wpAny (model prog w) A (Builtin.Slice.sliceApplied (.ref sl) (pure (items.size : Int))) R E s := by
    intro A R hR
    unfold Builtin.Slice.sliceApplied Builtin.Slice.sliceFields
    refine wpAny_bind (wpAny_bind (wpAny_field hos hds (x := vl) rfl (wpAny_bind (wpAny_field hos hds (x := vu) rfl (wpAny_bind (wpAny_field hos hds (x := vs) rfl (wpAny_pure ?_)))))))
    refine wpAny_bind (HT.slicePart_ ps ?_)
    show wpAny _ _ (if ((-1 : Int) == 0) = true then _ else _) _ _ s
    rw [if_neg (by decide)]
    refine wpAny_bind (HT.slicePart_ pl (wpAny_bind (HT.slicePart_ pu (wpAny_bind (wpAny_pure ?_)))))
    show wpAny _ _ (match Builtin.Slice.sliceAdjust none none (-1) (items.size : Int) with | (lo, hi) => pure (lo, (-1 : Int), Builtin.Slice.slicePlaces lo hi (-1))) _ _ s
    rw [adjust_rev]
    show wpAny _ _ (pure ((items.size : Int) - 1, (-1 : Int), Builtin.Slice.slicePlaces ((items.size : Int) - 1) (-1) (-1))) _ _ s
    rw [places_rev]
    exact wpAny_pure hR
  refine wpAny_bind (happ ?_)
  have hno : ¬ ((((items.size : Int) - 1) == 0 && (-1 : Int) == 1 && items.size == items.size) = true) := by
    intro q
    rw [Bool.and_eq_true, Bool.and_eq_true] at q
    exact absurd q.1.2 (by decide)
  show wpAny _ _ (if (((items.size : Int) - 1) == 0 && (-1 : Int) == 1 && items.size == items.size) = true then _ else _) _ _ s
  rw [if_neg hno, pick_rev]
  first
    | exact wpAny_bind (m := Builtin.Tuple.tupleExact _) (wpAny_newObj_type (wpAny_pure ⟨_, rfl, wpAny_pure h⟩) htake)
    | exact wpAny_bind (m := Builtin.Tuple.tupleExact _) (wpAny_newObj_type (wpAny_bind (wpAny_pure (wpAny_pure ⟨_, rfl, wpAny_pure h⟩))) htake)
    | exact wpAny_bind (wpAny_bind (m := Builtin.Tuple.tupleExact _) (wpAny_newObj_type (wpAny_pure (wpAny_pure ⟨_, rfl, wpAny_pure h⟩)) htake))
    | exact wpAny_bind (wpAny_bind (m := Builtin.Tuple.tupleExact _) (wpAny_newObj_type (wpAny_pure ⟨_, rfl, wpAny_pure h⟩) htake))
end
def tRev (K : PySem.W.Frag) (te : TE) : TE := fun σ H Q => te σ H fun x H1 => (∃ a xs, x = .ref a ∧ SqL K H1 a xs ∧ ∀ p, H1 p = none → Q (.ref p) (upd H1 p (.lst xs.reverse))) ∨ (∃ a xs, x = .ref a ∧ SqT K H1 a xs ∧ NewT H1 xs.reverse Q)
section
variable {X : Cx}
theorem pe_rev {e : Expr} {te : TE} {k : Nat} {p1 p2 p3 pos : Pos} (he : PE X e te) : PE X (.Subscript e (.Slice none none (some (.UnaryOp .USub (.Constant (.int 1) k p1) p2)) p3) pos) (tRev X.K te) := by
  refine ⟨fun pins s σ H Q I h => ?_⟩
  refine Subscript_ (thn (he.run pins s σ H _ I h) fun v s1 ⟨x, H1, I1, r1, q1⟩ => ?_)
  have hst : PO X (some (.UnaryOp .USub (.Constant (.int 1) k p1) p2)) (tPart (tUn (rU fun i => .int (-i)) (tC (.int 1)))) := po_some (pe_un un_neg pe_int)
  refine wpAny_Slice (thn (po_none.run pins s1 σ H1 (fun o H2 => o = none ∧ H2 = H1) I1 ⟨rfl, rfl⟩) fun vl s2 ⟨l, H2, I2, pl, el, e2⟩ => ?_)
  subst el e2
  refine thn (po_none.run pins s2 σ H2 (fun o H3 => o = none ∧ H3 = H2) I2 ⟨rfl, rfl⟩) fun vu s3 ⟨u, H3, I3, pu, eu, e3⟩ => ?_
  subst eu e3
  refine thn (hst.run pins s3 σ H3 (fun o H4 => o = some (-1) ∧ H4 = H3) I3 ⟨1, rfl, -1, rfl, rfl, rfl⟩) fun vs s4 ⟨o, H4, I4, ps, eo, e4⟩ => ?_
  subst eo e4
  have I5 : Inv X pins σ H4 { s4 with heap := s4.heap.push { cls := .type "slice", data := .fields #[vl, vu, vs] } } := I4.kept (t' := s4.toks) fun b ob q => Heap.get?_push_of_some _ q
  rcases q1 with ⟨a, xs, ex, hx, q⟩ | ⟨a, xs, ex, hx, q⟩
  · subst ex
    cases r1
    obtain ⟨its, r, ht, hz⟩ := I5.list hx
    have hlen := r.length
    show wpAny (model X.prog X.w) X.A (subscriptTail e (.Slice none none (some (.UnaryOp .USub (.Constant (.int 1) k p1) p2)) p3) (.ref a) (.ref s4.heap.objs.size)) (EP X pins σ Q) X.xe { s4 with heap := s4.heap.push { cls := .type "slice", data := .fields #[vl, vu, vs] } }
    refine tail_any (ops := [.ref a, .ref s4.heap.objs.size]) ht.isList.typeIs (PySem.slot_list_getitem.lookup) ?_ (by with_unfolding_all rfl)
    refine wpAny_getItem_list_slice ht.isList (Heap.IsSliceOf.new _ vl vu vs) pl pu ps (by decide) ?_ (by rw [List.size_toArray]; omega)
    rw [PySem.W.krv_pick]
    refine ⟨.ref _, _, I5.laid (t' := s4.toks) (o := .lst xs.reverse) (fun b ob q => Heap.get?_push_of_some _ q) (Nat.le_refl _) ?_, rfl, q _ (I5.hok.fresh (Nat.le_refl _))⟩
    exact ⟨by rw [List.length_reverse]; exact hz, _, 0, r.reverse, Heap.get?_push_size _ rfl⟩
  · subst ex
    cases r1
    obtain ⟨its, r, ht, hz⟩ := I5.tuple hx
    have hlen := r.length
    show wpAny (model X.prog X.w) X.A (subscriptTail e (.Slice none none (some (.UnaryOp .USub (.Constant (.int 1) k p1) p2)) p3) (.ref a) (.ref s4.heap.objs.size)) (EP X pins σ Q) X.xe { s4 with heap := s4.heap.push { cls := .type "slice", data := .fields #[vl, vu, vs] } }
    refine tail_any (ops := [.ref a, .ref s4.heap.objs.size]) ht.typeIs PyProof.Rows.slot_tuple_getitem.lookup ?_ (by with_unfolding_all rfl)
    refine getItem_tuple_rev ht (Heap.IsSliceOf.new _ vl vu vs) pl pu ps ?_ (by rw [List.size_toArray]; omega)
    exact lay_T (tk := s4.toks) I5 (fun _ _ e => e) (by rw [List.length_reverse]; exact hz) r.reverse q
end
section
variable {X : Cx} {G : Gm} {W : Wi} {Z : Ow} {B : Nat → Option Addr} {σ : L2.St} {H : Hp} {A : Anchors} {ρ : Ev} {Q : VK}
theorem FzA.reverse {O : Ow} {H : Hp} : ∀ {xs : List V} {ds : List PyData}, FzA O H xs ds → FzA O H xs.reverse ds.reverse
  | _, _, .nil => .nil
  | _, _, .cons a r => by
    rw [List.reverse_cons, List.reverse_cons]
    exact (FzA.reverse r).append (.cons a .nil)
def gRev : PyData → PR
  | .list ds => .new ds.reverse
  | .tuple ds => .val (.tuple ds.reverse)
  | _ => .bad
def revPR : Option PyData → PR
  | some d => gRev d
  | none => .bad
def eRev (a : EvE) : EvE := fun ρ => (a ρ).bind fun r ρ1 => (revPR (res ρ1 r)).out ρ1
theorem de_rev {e : Expr} {ea : EvE} {k : Nat} {p1 p2 p3 pos : Pos} (ha : DE X G W e ea) : DE X G W (.Subscript e (.Slice none none (some (.UnaryOp .USub (.Constant (.int 1) k p1) p2)) p3) pos) (eRev ea) :=
  ⟨PE_imp (pe_rev ha.pe) fun σ H Q ⟨Z, B, ρ, A, R, d⟩ => dE_bind shift_E R d fun r1 ρ1 v H1 A1 R1 x1 f1 d1 => by
    cases e : res ρ1 r1 with
    | none => rw [e] at d1; exact d1.elim
    | some c =>
      rw [e] at d1
      have g := f1.vw R1 e
      have d2 := prs_fin R1 d1
      cases c with
      | list ds =>
        obtain ⟨a, xs, rfl, e, f⟩ := g
        exact .inl ⟨a, xs, rfl, .of e, fun p hp => d2 p _ H1 _ (.refl _) hp (.new hp) upd_same f.reverse⟩
      | tuple ds =>
        obtain ⟨a, xs, rfl, e, n, f⟩ := g
        exact .inr ⟨a, xs, rfl, e.sq, fun p o hp ho => d2 _ _ (.new hp) (.newT ho R1.oin hp f.reverse)⟩
      | _ => exact d1.elim⟩
end
end DL

/-! DL24: repr of dicts whose keys and values hold neither list nor dict; equations of xs[::-1] -/
namespace DL
open PySem PySem.Spec PyProof.Rows L2
mutual
def flatK : PyData → Bool
  | .none => true
  | .bool _ => true
  | .int _ => true
  | .str _ => true
  | .tuple ds => flatKA ds
  | .list _ => false
  | .dict _ => false
def flatKA : List PyData → Bool
  | [] => true
  | d :: ds => flatK d && flatKA ds
end
mutual
theorem flat_noDict : ∀ d : PyData, flatK d = true → d.hasDict = false
  | .none, _ => rfl
  | .bool _, _ => rfl
  | .int _, _ => rfl
  | .str _, _ => rfl
  | .tuple ds, h => by
    simp only [PyData.hasDict]
    exact flat_noDictA ds (by simpa [flatK] using h)
  | .list _, h => by simp [flatK] at h
  | .dict _, h => by simp [flatK] at h
theorem flat_noDictA : ∀ ds : List PyData, flatKA ds = true → PyData.hasDictAll ds = false
  | [], _ => rfl
  | d :: ds, h => by
    simp only [flatKA, Bool.and_eq_true] at h
    simp only [PyData.hasDictAll, flat_noDict d h.1, flat_noDictA ds h.2, Bool.or_self]
end
mutual
theorem flat_reads {h : Heap} : ∀ (d : PyData) (u : Value) (as : List Addr), flatK d = true → Reads h u d as → as = []
  | .none, _, _, _, r => by cases r; rfl
  | .bool _, _, _, _, r => by cases r; rfl
  | .int _, _, _, _, r => by cases r; rfl
  | .str _, _, _, _, r => by cases r; rfl
  | .tuple ds, _, _, f, r => by
    cases r with
    | tuple _ _ _ q => exact flat_readsA ds _ _ (by simpa [flatK] using f) q
  | .list _, _, _, f, _ => by simp [flatK] at f
  | .dict _, _, _, f, _ => by simp [flatK] at f
theorem flat_readsA {h : Heap} : ∀ (ds : List PyData) (us : List Value) (as : List Addr), flatKA ds = true → ReadsAll h us ds as → as = []
  | [], _, _, _, r => by cases r; rfl
  | d :: ds, _, _, f, r => by
    simp only [flatKA, Bool.and_eq_true] at f
    cases r with
    | cons q1 q2 => rw [flat_reads d _ _ f.1 q1, flat_readsA ds _ _ f.2 q2]; rfl
end
def dicK : PyData → Bool
  | .dict kvs => flatKA (kvs.map Prod.fst) && flatKA (kvs.map Prod.snd)
  | _ => false
def shD : PyData → Nat
  | .dict kvs => 2 + (shBA (kvs.map Prod.fst) + shBA (kvs.map Prod.snd))
  | d => shB d
theorem dictText_pil (ts : List Str) : (dictText ts).length ≤ 2 + pil ts := by
  have e : (dictText ts).length = 1 + (Str.join ", " ts).length + 1 := by
    unfold dictText; rw [strLen_append, strLen_append]; rfl
  by_cases h : ts = []
  · subst h
    have e2 : (Str.join ", " ([] : List Str)).length = 0 := rfl
    omega
  · have := join_length_add ts h
    rw [piled_pil] at this
    omega
theorem shownKv_pil : ∀ kvs : List (PyData × PyData), PyData.hasDictAll (kvs.map Prod.fst) = false → PyData.hasDictAll (kvs.map Prod.snd) = false → pil (PyData.shownKv kvs) ≤ shBA (kvs.map Prod.fst) + shBA (kvs.map Prod.snd)
  | [], _, _ => Nat.le_refl _
  | (k, v) :: r, h1, h2 => by
    simp only [List.map_cons, PyData.hasDictAll, Bool.or_eq_false_iff] at h1 h2
    have a1 := shown_len k h1.1
    have a2 := shown_len v h2.1
    have a3 := shownKv_pil r h1.2 h2.2
    have e : (k.shown ++ (": " : Str) ++ v.shown).length = k.shown.length + 2 + v.shown.length := by rw [strLen_append, strLen_append]; rfl
    simp only [PyData.shownKv, pil, List.map_cons, shBA, e]
    omega
theorem shown_lenD (d : PyData) (h : d.hasDict = false ∨ dicK d = true) : d.shown.length ≤ shD d := by
  cases d with
  | dict kvs =>
    have h : (flatKA (kvs.map Prod.fst) && flatKA (kvs.map Prod.snd)) = true := h.elim (fun z => by simp [PyData.hasDict] at z) id
    rw [Bool.and_eq_true] at h
    have := shownKv_pil kvs (flat_noDictA _ h.1) (flat_noDictA _ h.2)
    simp only [PyData.shown, shD]
    exact Nat.le_trans (dictText_pil _) (Nat.add_le_add_left this 2)
  | none => exact shown_len _ rfl
  | bool b => exact shown_len _ rfl
  | int i => exact shown_len _ rfl
  | str x => exact shown_len _ rfl
  | list xs => exact shown_len _ (h.elim id fun z => by simp [dicK] at z)
  | tuple xs => exact shown_len _ (h.elim id fun z => by simp [dicK] at z)
def gReprD : GN
  | [d] => if d.showable = true ∧ (d.hasDict = false ∨ dicK d = true) ∧ d.depth ≤ 64 ∧ shD d ≤ lim then .val (.str d.shown) else .bad
  | _ => .bad
section
variable {X : Cx} {G : Gm} {W : Wi} {Z Z' : Ow} {B A A1 A2 A0 : Nat → Option Addr} {σ σ1 : L2.St} {H H1 H2 H0 : Hp} {ρ ρ1 ρ2 : Ev} {Q : VK} {v : V} {r : RV}
def rReprD (K : PySem.W.Frag) : List V → Hp → VK → Prop := fun xs H Q => rRepr K xs H Q ∨ ∃ a o ks vs kvs, xs = [.ref a] ∧ H a = some (XO o a) ∧ DObj o ks vs (kvs.map Prod.fst) ∧ DpAll K H ks (kvs.map Prod.fst) ∧ DpAll K H vs (kvs.map Prod.snd) ∧
  flatKA (kvs.map Prod.fst) = true ∧ flatKA (kvs.map Prod.snd) = true ∧ (PyData.dict kvs).showable = true ∧ (PyData.dict kvs).depth ≤ 64 ∧ (PyData.dict kvs).shown.length ≤ sizeLine ∧ Q (.str (PyData.dict kvs).shown) H
theorem call_reprD (hG : X.A.guards = some []) (hu : X.A.units + 66 < cLine) : CallR X (.builtin "repr") (rReprD X.K) := by
  intro pins s σ H xs us Q I r h
  rcases h with h | ⟨a, o, ks, vs, kvs, rfl, hx, ⟨es, ep, ex, hd, hz, hk, hv, _, _⟩, dk, dv, fk, fv, h1, h3, h4, q⟩
  · exact call_repr hG hu pins s σ H xs us Q I r h
  obtain ⟨u, rfl, ru⟩ := vals1 r
  cases ru
  have ho := xo_at I.hok hx
  have hgt := xo_gt I.hok hx
  obtain ⟨as, r1⟩ := Dp.readsAll I _ _ _ dk hk
  obtain ⟨bs, r2⟩ := Dp.readsAll I _ _ _ dv hv
  cases flat_readsA _ _ _ fk r1
  cases flat_readsA _ _ _ fv r2
  exact repr_of_reads' (d := .dict kvs) (.dict ho ex.1 hd r1 r2) h1 (fun _ z => by
    have z' : sysModules = a := by simpa using z
    exact absurd hgt (by rw [z']; exact Nat.lt_irrefl _)) hG (by omega) (fun _ _ e => e) (fun h' u tk k => ⟨.str _, H, I.kept k, ⟨_, rfl⟩, q⟩) h4
theorem call_reprDS {K : PySem.W.Frag} : CallS (rReprD K) gReprD := by
  intro O H xs ds Q hO hv h
  match ds, hv, h with
  | [d], hv, h =>
    obtain ⟨x, rfl, hx⟩ := hv.one
    by_cases hl : d.showable = true ∧ (d.hasDict = false ∨ dicK d = true) ∧ d.depth ≤ 64 ∧ shD d ≤ lim
    · simp only [gReprD, if_pos hl] at h
      have hz : d.shown.length ≤ sizeLine := by rw [← lim_eq]; exact Nat.le_trans (shown_lenD d hl.2.1) hl.2.2.2
      by_cases hd : d.hasDict = false
      · exact .inl ⟨x, d, rfl, hx.dp hd, hl.1, hd, hl.2.2.1, hz, h _ H (.refl _) (.str _)⟩
      · have hk := hl.2.1.resolve_left hd
        cases d with
        | dict kvs =>
          obtain ⟨a, o, ks, vs, rfl, hx1, hx2, hx3, hx4⟩ := hx
          have hk : (flatKA (kvs.map Prod.fst) && flatKA (kvs.map Prod.snd)) = true := hk
          rw [Bool.and_eq_true] at hk
          exact .inr ⟨a, o, ks, vs, kvs, rfl, hx1, hx2, hx3.dp (flat_noDictA _ hk.1), hx4.dp (flat_noDictA _ hk.2), hk.1, hk.2, hl.1, hl.2.2.1, hz, h _ H (.refl _) (.str _)⟩
        | _ => simp [dicK] at hk
    · simp only [gReprD, if_neg hl] at h; exact h.elim
  | [], _, h => exact h.elim
  | _ :: _ :: _, _, h => exact h.elim
end
theorem o_reprD {d : PyData} : gReprD [d] = if d.showable = true ∧ (d.hasDict = false ∨ dicK d = true) ∧ d.depth ≤ 64 ∧ shD d ≤ 16777216 then .val (.str d.shown) else .bad := rfl
theorem shD_n : shD .none = shB .none := rfl
theorem shD_b {b : Bool} : shD (.bool b) = shB (.bool b) := rfl
theorem shD_i {b : Int} : shD (.int b) = shB (.int b) := rfl
theorem shD_s {b : Str} : shD (.str b) = shB (.str b) := rfl
theorem shD_l {b : List PyData} : shD (.list b) = shB (.list b) := rfl
theorem shD_t {b : List PyData} : shD (.tuple b) = shB (.tuple b) := rfl
theorem eRev_ {a : EvE} {ρ : Ev} : eRev a ρ = (a ρ).bind fun r ρ1 => (revPR (res ρ1 r)).out ρ1 := rfl
theorem revPR_ {d : PyData} : revPR (some d) = gRev d := rfl
theorem gRev_l {d : List PyData} : gRev (.list d) = .new d.reverse := rfl
theorem gRev_t {d : List PyData} : gRev (.tuple d) = .val (.tuple d.reverse) := rfl
end DL

/-! DL25: x in l for data of any depth, l.count(x), len(set(l)) for lists of whole numbers -/
namespace DL
open PySem PySem.Spec PyProof.Rows L2
def gInD (neg : Bool) : G2 := fun x y => match y with
  | .list ds => if SeqAt.shaped x = true ∧ SeqAt.shaped (.list ds) = true then .val (.bool (if neg then !inD x ds else inD x ds)) else .bad
  | _ => .bad
theorem noDict_shaped {d : PyData} (h : SeqAt.shaped d = true) : d.hasDict = false := PyData.hasDict_of_canLay _ (SeqAt.canLay_of_shaped h)
theorem op_inDS {K : PySem.W.Frag} : Op2S (rInD K) (gInD false) := by
  intro O H x y dx dy Q hO hx hy h
  cases dy with
  | list ds =>
    by_cases hl : SeqAt.shaped dx = true ∧ SeqAt.shaped (.list ds) = true
    · simp only [gInD, if_pos hl] at h
      exact ⟨dx, ds, hx.dp (noDict_shaped hl.1), hy.dp (noDict_shaped hl.2), hl.1, hl.2, h _ H (.refl _) (.bl _)⟩
    · simp only [gInD, if_neg hl] at h; exact h.elim
  | _ => exact h.elim
theorem op_notInDS {K : PySem.W.Frag} : Op2S (rNotInD K) (gInD true) := by
  intro O H x y dx dy Q hO hx hy h
  cases dy with
  | list ds =>
    by_cases hl : SeqAt.shaped dx = true ∧ SeqAt.shaped (.list ds) = true
    · simp only [gInD, if_pos hl] at h
      exact ⟨dx, ds, hx.dp (noDict_shaped hl.1), hy.dp (noDict_shaped hl.2), hl.1, hl.2, h _ H (.refl _) (.bl _)⟩
    · simp only [gInD, if_neg hl] at h; exact h.elim
  | _ => exact h.elim
/-! ### l.count(x) -/
def gCountL : G2
  | .list ds, d => if SeqAt.shaped (.list ds) = true ∧ SeqAt.shaped d = true then .val (.int ((ds.countP fun z => PyData.eqv z d : Nat) : Int)) else .bad
  | _, _ => .bad
section
variable {X : Cx} {G : Gm} {W : Wi} {Z Z' : Ow} {B A A1 A2 A0 : Nat → Option Addr} {σ σ1 : L2.St} {H H1 H2 H0 : Hp} {ρ ρ1 ρ2 : Ev} {Q : VK} {v : V} {r : RV}
def rCountD (K : PySem.W.Frag) : V → List V → Hp → VK → Prop := fun x xs H Q => ∃ (a : Addr) (y : V) (d : PyData) (ds : List PyData), x = V.ref a ∧ xs = [y] ∧ Dp K H (V.ref a) (.list ds) ∧ Dp K H y d ∧ SeqAt.shaped (.list ds) = true ∧ SeqAt.shaped d = true ∧ Q (.int ((ds.countP fun z => PyData.eqv z d : Nat) : Int)) H
theorem mt_countD (hu : X.A.units + 65 < cLine) : MtR X "list.count" (rCountD X.K) := by
  intro pins s σ H x xs v us Q I rx rxs h
  obtain ⟨a, y, d, ds, rfl, rfl, hl, hy, sl, sd, q⟩ := h
  cases rx
  cases rxs with
  | cons ry rt =>
    rename_i uy ut
    cases rt
    obtain ⟨bs, r1⟩ := Dp.reads I d y uy hy ry
    have hroom : X.A.units + 1 + min (PyData.depthAll ds) d.depth < cLine := room_in_shaped sd hu
    cases hl with
    | lst hs ha =>
      obtain ⟨its, rv, pl, hlen⟩ := I.list hs
      obtain ⟨as, h4⟩ := Dp.readsAll I ds _ its ha rv
      exact SeqAt.count_list_data (vs := its.toArray) pl.isList (by simpa using h4) r1 (PyData.plainAll_of_canLay0 _ (SeqAt.canLay_of_shaped sl)) (PyData.plain_of_canLay0 _ (SeqAt.canLay_of_shaped sd)) hroom
        ⟨.int _, H, I.tok _, ⟨_, rfl⟩, q⟩
theorem countL_S {K : PySem.W.Frag} : Op2S (fun x y H Q => rCountD K x [y] H Q) gCountL := by
  intro O H x y dx dy Q hO hx hy h
  cases dx with
  | list ds =>
    by_cases hl : SeqAt.shaped (.list ds) = true ∧ SeqAt.shaped dy = true
    · simp only [gCountL, if_pos hl] at h
      obtain ⟨a, xs, rfl, e, f⟩ := hx
      exact ⟨a, y, dy, ds, rfl, rfl, .lst (.of e) (FzA.dp (by simpa [PyData.hasDict] using noDict_shaped hl.1) f), hy.dp (noDict_shaped hl.2), hl.1, hl.2, h _ H (.refl _) (.int _)⟩
    · simp only [gCountL, if_neg hl] at h; exact h.elim
  | _ => exact h.elim
section
variable {o e : Expr} {eo ee : EvE} {apos cpos : Pos}
theorem de_countL (hu : X.A.units + 65 < cLine) (ho : DE X G W o eo) (ha : DE X G W e ee) (hne : starEach [e] X.env = (false, eval e X.env) :: starEach [] X.env := by rfl)
    (hbase : attributeBase o "count" X.env (eval o X.env) = eval o X.env := by rfl)
    (hfew : ((backTo cpos (starEach [e] X.env)).all (fun x => !x.1) && (backToKw cpos (keywordEach [] X.env)).all (fun x => x.1.isSome)
      && decide ([e].length + ([] : List Keyword).length + (if ([] : List Keyword).isEmpty then 0 else 1) < 30)) = true := by rfl)
    (hline : (apos.endLine == cpos.line) = true := by rfl) (hpl : (backTo cpos (starEach [] X.env)).any (·.1) = false := by rfl) : DE X G W (.Call (.Attribute o "count" apos) [e] [] cpos) (eMe isL gCountL eo ee) :=
  ⟨PE_imp (pe_bm PySem.F.plainAttrs_list PySem.F.slot_list_count PySem.F.type_list_count (mt_countD hu) ho.pe (pa_cons ha.pe pa_nil hne) hbase hfew hline hne hpl) fun σ H Q ⟨Z, B, ρ, A, R, d⟩ =>
    me_ok (ty := fun x H => tyV X.K "list" x H) (fun O H x d hv hk => by
      cases d with
      | list ds => obtain ⟨a, xs, rfl, e, _⟩ := hv; exact .inl ⟨rfl, xs, .of e⟩
      | _ => cases hk) (countL_S (K := X.K)) d R⟩
end
/-! ### len(set(l)) -/
def dedupI (ns : List Int) : List Int := ns.foldl step_dedup []
theorem firstMet_dedup (ns : List Int) : firstMet (fun i => ns.getD i 0) ns.length = dedupI ns := by
  unfold firstMet dedupI
  have : (List.range ns.length).map (fun i => ns.getD i 0) = ns := by
    refine List.ext_getElem (by simp) fun i h1 h2 => ?_
    simp [List.getD_eq_getElem?_getD, List.getElem?_eq_getElem h2]
  rw [this]
def gLenSet : G1
  | .list ds => intPR (fun ns => if ns.length ≤ 1000 then .val (.int ((dedupI ns).length : Nat)) else .bad) (intsIn ds)
  | _ => .bad
def tLenSetJ (K : PySem.W.Frag) (ta : TE) : TE := fun σ H Q => ta σ H fun x H1 => ∃ (l : Addr) (ns : List Int), x = V.ref l ∧ SqL K H1 l (ns.map V.int) ∧ ns.length ≤ 1000 ∧ Q (.int (dedupI ns).length) H1
theorem dedupI_len (ns : List Int) : (dedupI ns).length ≤ ns.length := by
  rw [← firstMet_dedup]; exact firstMet_length_le _ _
theorem pe_lenSetJ {a : Expr} {ta : TE} {p p2 q pos : Pos} (hc : X.calm = true) (hg : Gl X "len") (hm : X.mg "len" = none) (hg2 : Gl X "set") (hm2 : X.mg "set" = none) (ha : PE X a ta)
    (na : starEach [a] X.env = (false, eval a X.env) :: starEach [] X.env := by rfl) : PE X (.Call (.Name "len" p) [.Call (.Name "set" p2) [a] [] q] [] pos) (tLenSetJ X.K ta) := by
  refine ⟨fun pins s σ H Q I h => ?_⟩
  refine Call_ (ld_blt I hg hm PySem.boot_len ?_)
  refine PyProof.Rows.callWith_builtin1 (PyProof.Rows.args_cons ?_ rfl) rfl rfl
  refine Call_ (ld_blt I hg2 hm2 PyProof.Rows.boot_set ?_)
  refine PyProof.Rows.callWith_type1 (PyProof.Rows.args_cons (thn (ha.run pins s σ H _ I h) fun v s1 ⟨x, H1, I1, r1, q1⟩ => PyProof.Rows.args_nil ?_) na) na rfl
  obtain ⟨l, ns, rfl, hq, h1, q1⟩ := q1
  cases r1
  obtain ⟨its, r, pl, hz⟩ := I1.list hq
  have hl : its.toArray.size = ns.length := by rw [List.size_toArray, ← r.length, List.length_map]
  refine call_set_list (I1.ok.hd hc) pl.isList (ns := ns) (by simpa using r.ints) (by unfold scanBound; omega) fun h' tk hS hk => ?_
  rw [hl, firstMet_dedup] at hS
  have dl := dedupI_len ns
  refine PyProof.Rows.args_nil ?_
  obtain ⟨o, es, ep, t, ho, hex, hd, _, _, _, hf, hn⟩ := hS
  have I2 : Inv X pins σ H1 { s1 with heap := h', toks := tk } := I1.kept fun b o e => hk b o (Heap.lt_size e) e
  refine call_len_set ho hex hd hf (by rw [hn] <;> omega) ⟨.int (dedupI ns).length, H1, I2.tok _, ⟨_, by rw [hn]⟩, q1⟩
theorem de_lenSet {a : Expr} {ea : EvE} {p p2 q pos : Pos} (hc : X.calm = true) (hg : Gl X "len") (hm : X.mg "len" = none) (hg2 : Gl X "set") (hm2 : X.mg "set" = none) (ha : DE X G W a ea)
    (na : starEach [a] X.env = (false, eval a X.env) :: starEach [] X.env := by rfl) : DE X G W (.Call (.Name "len" p) [.Call (.Name "set" p2) [a] [] q] [] pos) (eUn gLenSet ea) :=
  ⟨PE_imp (pe_lenSetJ hc hg hm hg2 hm2 ha.pe na) fun σ H Q ⟨Z, B, ρ, A, R, d⟩ => by
    refine dE_bind shift_E R d fun r1 ρ1 v H1 A1 R1 x1 f1 d1 => ?_
    unfold p1 at d1
    cases e1 : res ρ1 r1 with
    | none => rw [e1] at d1; exact d1.elim
    | some dx =>
      rw [e1] at d1
      cases dx with
      | list ds =>
        cases q : intsIn ds with
        | none => simp only [gLenSet, q] at d1; exact d1.elim
        | some ns =>
          simp only [gLenSet, q, intPR] at d1
          by_cases hz : ns.length ≤ 1000
          · simp only [if_pos hz] at d1
            obtain ⟨b, xs, rfl, e, f⟩ := f1.vw R1 e1
            have := ints_fz q f
            subst this
            exact ⟨b, ns, rfl, .of e, hz, prs_fin R1 d1 _ H1 (.refl _) (.int _)⟩
          · simp only [if_neg hz] at d1; exact d1.elim
      | _ => exact d1.elim⟩
end
theorem o_inD {neg : Bool} {x : PyData} {ds : List PyData} : gInD neg x (.list ds) = if SeqAt.shaped x = true ∧ SeqAt.shaped (.list ds) = true then .val (.bool (if neg then !inD x ds else inD x ds)) else .bad := rfl
theorem o_countL {ds : List PyData} {d : PyData} : gCountL (.list ds) d = if SeqAt.shaped (.list ds) = true ∧ SeqAt.shaped d = true then .val (.int ((ds.countP fun z => PyData.eqv z d : Nat) : Int)) else .bad := rfl
theorem o_lenSet {ds : List PyData} : gLenSet (.list ds) = intPR (fun ns => if ns.length ≤ 1000 then .val (.int ((dedupI ns).length : Nat)) else .bad) (intsIn ds) := rfl
end DL

/-! DL26: dicts whose keys are whole numbers, or tuples of such -/
namespace DL
open PySem PySem.Spec PyProof.Rows L2
/-! ### keys -/
def kyI : PyData → Bool
  | .int _ => true
  | _ => false
def kyN : Option NestedKey → Bool
  | some (.tup ks) => decide ((NestedKey.tup ks).depth ≤ 8)
  | _ => false
def kyT (d : PyData) : Bool := kyN (nkD d)
def kAt (kvs : List (PyData × PyData)) (k : PyData) : Option PyData := (kvs.find? fun p => decide (nkD p.1 = nkD k)).map (·.2)
def kRep (k d : PyData) (p : PyData × PyData) : PyData × PyData := if nkD p.1 = nkD k then (p.1, d) else p
def kPut (kvs : List (PyData × PyData)) (k d : PyData) : List (PyData × PyData) := if (kAt kvs k).isSome = true then kvs.map (kRep k d) else kvs ++ [(k, d)]
def dMode (kvs : List (PyData × PyData)) (k : PyData) : Bool := (kyI k && kvs.all fun p => kyI p.1) || (kyT k && kvs.all fun p => kyT p.1)
mutual
theorem nkD_F : ∀ {d : PyData} {k : NestedKey}, nkD d = some k → nkF k = true
  | .none, _, h => by cases h; rfl
  | .bool _, _, h => by cases h; rfl
  | .int _, _, h => by cases h; rfl
  | .tuple ds, k, h => by
    simp only [nkD] at h
    obtain ⟨ks, h1, rfl⟩ := Option.map_eq_some_iff.mp h
    exact nkD_Fs h1
  | .str _, _, h => by cases h
  | .list _, _, h => by cases h
  | .dict _, _, h => by cases h
theorem nkD_Fs : ∀ {ds : List PyData} {ks : List NestedKey}, nkDs ds = some ks → nkFs ks = true
  | [], _, h => by cases h; rfl
  | d :: ds, ks, h => by
    simp only [nkDs] at h
    cases q1 : nkD d with
    | none => rw [q1] at h; cases h
    | some k1 =>
      cases q2 : nkDs ds with
      | none => rw [q1, q2] at h; cases h
      | some k2 =>
        rw [q1, q2] at h; cases h
        show (nkF k1 && nkFs k2) = true
        rw [nkD_F q1, nkD_Fs q2]; rfl
end
theorem kyT_some {d : PyData} (h : kyT d = true) : ∃ ks, nkD d = some (.tup ks) ∧ (NestedKey.tup ks).depth ≤ 8 := by
  unfold kyT at h
  cases q : nkD d with
  | none => rw [q] at h; cases h
  | some k =>
    rw [q] at h
    cases k with
    | tup ks => exact ⟨ks, rfl, of_decide_eq_true h⟩
    | none => cases h
    | num _ => cases h
    | text _ => cases h
theorem kyT_tuple {d : PyData} (h : kyT d = true) : ∃ ds, d = .tuple ds := by
  obtain ⟨ks, q, _⟩ := kyT_some h
  cases d with
  | tuple ds => exact ⟨ds, rfl⟩
  | none => simp [nkD] at q
  | bool _ => simp [nkD] at q
  | int _ => simp [nkD] at q
  | str _ => simp [nkD] at q
  | list _ => simp [nkD] at q
  | dict _ => simp [nkD] at q
section
variable {X : Cx} {pins : List (Addr × Obj)} {σ : L2.St} {H : Hp} {s : Shared} {O : Ow}
mutual
theorem fz_nk (I : Inv X pins σ H s) : ∀ {d : PyData} {k : NestedKey} {v : V} {u : Value}, nkD d = some k → Fz O H v d → RelV v u → NestedIs s.heap k u
  | .none, _, _, _, h, f, r => by cases h; cases f; cases (show _ = Value.none from r); exact .none
  | .bool b, _, _, _, h, f, r => by cases h; cases f; cases (show _ = Value.bool b from r); exact .bool rfl
  | .int i, _, _, _, h, f, r => by
    cases h; cases f
    obtain ⟨t, rfl⟩ := r
    exact .int i t
  | .tuple ds, k, _, u, h, f, r => by
    simp only [nkD] at h
    obtain ⟨ks, h1, rfl⟩ := Option.map_eq_some_iff.mp h
    cases f with
    | @tup a xs _ e n q =>
      cases (show u = Value.ref a from r)
      obtain ⟨o, e, d⟩ := e
      obtain ⟨g1, _, its, rv, o2, g2, g3, g4⟩ := (show ObjOk X.prog X.w H s.heap a (.frz o (.tup xs)) from I.hok a _ e)
      obtain ⟨n, g4⟩ := g4
      exact .tup g2 g3 g4 (by rw [List.toList_toArray]; exact fz_nks I h1 q rv)
  | .str _, _, _, _, h, _, _ => by cases h
  | .list _, _, _, _, h, _, _ => by cases h
  | .dict _, _, _, _, h, _, _ => by cases h
theorem fz_nks (I : Inv X pins σ H s) : ∀ {ds : List PyData} {ks : List NestedKey} {vs : List V} {us : List Value}, nkDs ds = some ks → FzA O H vs ds → Vals vs us → NestedAll s.heap ks us
  | [], _, _, _, h, f, r => by cases h; cases f; cases r; exact .nil
  | d :: ds, ks, _, _, h, f, r => by
    simp only [nkDs] at h
    cases q1 : nkD d with
    | none => rw [q1] at h; cases h
    | some k1 =>
      cases q2 : nkDs ds with
      | none => rw [q1, q2] at h; cases h
      | some k2 =>
        rw [q1, q2] at h; cases h
        cases f with
        | cons f1 f2 =>
          cases r with
          | cons r1 r2 => exact .cons (fz_nk I q1 f1 r1) (fz_nks I q2 f2 r2)
end
/-- the entries of a dict whose keys are tuples -/
theorem ents_T (I : Inv X pins σ H s) : ∀ (es : List DictEntry) (ks vs : List V) (kd : List PyData), Vals ks (es.map (·.key)) → Vals vs (es.map (·.val)) → FzA O H ks kd →
    (∀ (i : Nat) (e : DictEntry) (d : PyData) (k : NestedKey), es[i]? = some e → kd[i]? = some d → nkD d = some k → e.hash = nkH k) → kd.all kyT = true →
    ∃ xs : List (NestedKey × Addr × Value), es = xs.map (entryOfKey (nestedKind X.prog X.w)) ∧ kd.map nkD = xs.map (fun x => some x.1) ∧ ks = xs.map (fun x => V.ref x.2.1) ∧ Vals vs (xs.map (·.2.2)) ∧ ∀ x ∈ xs, (nestedKind X.prog X.w).is s.heap x.1 x.2.1
  | [], ks, vs, kd, h1, h2, h3, h4, h5 => by
    cases h1; cases h2; cases h3
    exact ⟨[], rfl, rfl, rfl, .nil, fun _ h => nomatch h⟩
  | e :: es, _, _, _, h1, h2, h3, h4, h5 => by
    cases h1 with
    | @cons k u ks us r1 r2 =>
      cases h2 with
      | @cons v u' vs us' g1 g2 =>
        cases h3 with
        | @cons _ _ d kd f1 f2 =>
          rw [List.all_cons, Bool.and_eq_true] at h5
          obtain ⟨xs, a1, a2, a3, a4, a5⟩ := ents_T I es ks vs kd r2 g2 f2 (fun i e d k q1 q2 q3 => h4 (i + 1) e d k (by simpa using q1) (by simpa using q2) q3) h5.2
          obtain ⟨nks, hn, hd⟩ := kyT_some h5.1
          obtain ⟨dd, rfl⟩ := kyT_tuple h5.1
          have hh := h4 0 e _ _ (by simp) (by simp) hn
          have hi := fz_nk I hn f1 r1
          cases f1 with
          | @tup a ys _ t n q =>
            have ek : e.key = Value.ref a := r1
            have hi : NestedIs s.heap (.tup nks) e.key := hi
            rw [ek] at hi
            refine ⟨(.tup nks, a, e.val) :: xs, ?_, ?_, ?_, .cons g1 a4, fun x hx => ?_⟩
            · rw [List.map_cons, ← a1]
              congr 1
              obtain ⟨eh, eK, ev⟩ := e
              simp only at ek hh
              subst ek
              show _ = (⟨NestedKey.hash X.w (.tup nks), .ref a, ev⟩ : DictEntry)
              rw [hh, nkH_eq X.w _ (nkD_F hn)]
            · rw [List.map_cons, List.map_cons, a2, hn]
            · rw [List.map_cons, ← a3]
            · rcases List.mem_cons.mp hx with rfl | hx
              · exact ⟨hi, hd⟩
              · exact a5 x hx
theorem find_T : ∀ (xs : List (NestedKey × Addr × Value)) (kvs : List (PyData × PyData)) (vs : List V) (k : PyData) (nk : NestedKey), kvs.map (fun p => nkD p.1) = xs.map (fun x => some x.1) → Vals vs (xs.map (·.2.2)) → FzA O H vs (kvs.map Prod.snd) → nkD k = some nk →
    (kAt kvs k = none → atKey xs nk = none) ∧ ∀ d, kAt kvs k = some d → ∃ p w, atKey xs nk = some p ∧ RelV w p.2 ∧ Fz O H w d
  | [], kvs, vs, k, nk, h1, h2, h3, h4 => by
    have : kvs = [] := by simpa using h1
    subst this
    exact ⟨fun _ => rfl, fun d h => by cases h⟩
  | x :: xs, [], vs, k, nk, h1, h2, h3, h4 => by simp at h1
  | x :: xs, p :: kvs, vs, k, nk, h1, h2, h3, h4 => by
    rw [List.map_cons, List.map_cons] at h1
    obtain ⟨e1, e2⟩ := List.cons.inj h1
    cases h3 with
    | @cons v vs' _ _ f1 f2 =>
      cases h2 with
      | cons r1 r2 =>
        have ih := find_T xs kvs vs' k nk e2 r2 f2 h4
        by_cases q : x.1 = nk
        · have c1 : kAt (p :: kvs) k = some p.2 := by unfold kAt; rw [List.find?_cons, decide_eq_true (by rw [e1, h4, q])]; rfl
          have c2 : atKey (x :: xs) nk = some x.2 := by unfold atKey; rw [List.find?_cons, decide_eq_true q]; rfl
          rw [c1, c2]
          exact ⟨fun h => by (cases h), fun d h => by cases h; exact ⟨x.2, v, rfl, r1, f1⟩⟩
        · have c1 : kAt (p :: kvs) k = kAt kvs k := by unfold kAt; rw [List.find?_cons, decide_eq_false (by rw [e1, h4]; exact fun z => q (Option.some.inj z))]
          have c2 : atKey (x :: xs) nk = atKey xs nk := by unfold atKey; rw [List.find?_cons, decide_eq_false q]
          rw [c1, c2]
          exact ih
theorem rep_T {k d : PyData} {nk : NestedKey} {r : Value} {w : V} (h4 : nkD k = some nk) (rw' : RelV w r) (fw : Fz O H w d) : ∀ (xs : List (NestedKey × Addr × Value)) (kvs : List (PyData × PyData)) (vs : List V), kvs.map (fun p => nkD p.1) = xs.map (fun x => some x.1) → Vals vs (xs.map (·.2.2)) → FzA O H vs (kvs.map Prod.snd) →
    FzA O H (xs.map fun x => V.ref x.2.1) (kvs.map Prod.fst) →
    ∃ vs', Vals vs' ((xs.map (putAt nk r)).map (·.2.2)) ∧ FzA O H vs' ((kvs.map (kRep k d)).map Prod.snd) ∧ FzA O H ((xs.map (putAt nk r)).map fun x => V.ref x.2.1) ((kvs.map (kRep k d)).map Prod.fst) ∧ (kvs.map (kRep k d)).map (fun p => nkD p.1) = (xs.map (putAt nk r)).map (fun x => some x.1)
  | [], kvs, vs, h1, h2, h3, _ => by
    have : kvs = [] := by simpa using h1
    subst this
    exact ⟨[], .nil, .nil, .nil, rfl⟩
  | x :: xs, [], vs, h1, h2, h3, _ => by simp at h1
  | x :: xs, p :: kvs, vs, h1, h2, h3, h5 => by
    rw [List.map_cons, List.map_cons] at h1
    obtain ⟨e1, e2⟩ := List.cons.inj h1
    cases h3 with
    | @cons v vs' _ _ f1 f2 =>
      cases h2 with
      | cons r1 r2 =>
        cases h5 with
        | cons g1 g2 =>
          obtain ⟨ws, a1, a2, a3, a4⟩ := rep_T h4 rw' fw xs kvs vs' e2 r2 f2 g2
          have b1 : nkD (kRep k d p).1 = nkD p.1 := by unfold kRep; split <;> rfl
          have b2 : (putAt nk r x).1 = x.1 := by unfold putAt; split <;> rfl
          have b3 : (putAt nk r x).2.1 = x.2.1 := by unfold putAt; split <;> rfl
          have b4 : (kRep k d p).1 = p.1 := by unfold kRep; split <;> rfl
          have c4 : (kvs.map (kRep k d)).map (fun p => nkD p.1) = (xs.map (putAt nk r)).map (fun x => some x.1) := a4
          by_cases q : x.1 = nk
          · have c1 : (kRep k d p).2 = d := by unfold kRep; rw [if_pos (by rw [e1, h4, q])]
            have c2 : (putAt nk r x).2.2 = r := by unfold putAt; rw [if_pos q]
            refine ⟨w :: ws, ?_, ?_, ?_, ?_⟩
            · rw [List.map_cons, List.map_cons, c2]; exact .cons rw' a1
            · rw [List.map_cons, List.map_cons, c1]; exact .cons fw a2
            · rw [List.map_cons, List.map_cons, List.map_cons, List.map_cons, b3, b4]; exact .cons g1 a3
            · rw [List.map_cons, List.map_cons, List.map_cons, List.map_cons, b1, b2, e1, c4]
          · have c1 : (kRep k d p).2 = p.2 := by unfold kRep; rw [if_neg (by rw [e1, h4]; exact fun z => q (Option.some.inj z))]
            have c2 : (putAt nk r x).2.2 = x.2.2 := by unfold putAt; rw [if_neg q]
            refine ⟨v :: ws, ?_, ?_, ?_, ?_⟩
            · rw [List.map_cons, List.map_cons, c2]; exact .cons r1 a1
            · rw [List.map_cons, List.map_cons, c1]; exact .cons f1 a2
            · rw [List.map_cons, List.map_cons, List.map_cons, List.map_cons, b3, b4]; exact .cons g1 a3
            · rw [List.map_cons, List.map_cons, List.map_cons, List.map_cons, b1, b2, e1, c4]
/-- a dict's object, told by its entries -/
theorem dobj_T {h : Heap} {a : Addr} {xs : List (NestedKey × Addr × Value)} {vs : List V} {kd : List PyData} (hx : h.DictOfH (nestedKind X.prog X.w) a xs) (hz : xs.length ≤ sizeLine) (rv : Vals vs (xs.map (·.2.2))) (hk : kd.map nkD = xs.map (fun x => some x.1)) (hF : kd.all kyT = true) :
    ∃ o, h.get? a = some o ∧ DObj o (xs.map fun x => V.ref x.2.1) vs kd := by
  obtain ⟨o, es, ep, h1, h2, h3, h4, h5, h6⟩ := hx
  refine ⟨o, h1, es, ep, h2, h3, by rw [size_of_entries h4]; exact hz, ?_, ?_, fun i e d k q1 q2 q3 => ?_, ?_⟩
  · rw [h4, List.map_map]
    clear h4 h5 h6 hz rv hk
    induction xs with
    | nil => exact .nil
    | cons x xs ih => exact .cons rfl ih
  · rw [h4, List.map_map]
    have : (xs.map ((fun e : DictEntry => e.val) ∘ entryOfKey (nestedKind X.prog X.w))) = xs.map (·.2.2) := rfl
    rw [this]; exact rv
  · rw [h4, List.getElem?_map] at q1
    obtain ⟨x, q4, rfl⟩ := Option.map_eq_some_iff.mp q1
    have e1 := congrArg (fun l : List (Option NestedKey) => l[i]?) hk
    simp only [List.getElem?_map, q2, q4, Option.map_some] at e1
    have e2 : nkD d = some x.1 := Option.some.inj e1
    rw [q3] at e2
    cases e2
    show NestedKey.hash X.w x.1 = _
    exact nkH_eq X.w _ (nkD_F q3)
  · have : kd.filterMap nkD = xs.map (·.1) := by
      have e : kd.filterMap nkD = (kd.map nkD).filterMap id := by rw [List.filterMap_map]; rfl
      rw [e, hk, List.filterMap_map]
      clear h4 h5 h6 hz rv hk
      induction xs with
      | nil => rfl
      | cons x xs ih => simp
    rw [this]; exact h6
/-! ### whole numbers -/
theorem kyI_int {d : PyData} (h : kyI d = true) : ∃ i, d = .int i := by
  cases d with
  | int i => exact ⟨i, rfl⟩
  | _ => cases h
theorem ents_I : ∀ (es : List DictEntry) (ks vs : List V) (kd : List PyData), Vals ks (es.map (·.key)) → Vals vs (es.map (·.val)) → FzA O H ks kd →
    (∀ (i : Nat) (e : DictEntry) (d : PyData) (k : NestedKey), es[i]? = some e → kd[i]? = some d → nkD d = some k → e.hash = nkH k) → kd.all kyI = true →
    ∃ xs : List (Int × Value), Pairs (PySem.intKind X.prog X.w) es xs ∧ kd = xs.map (fun x => PyData.int x.1) ∧ Vals vs (xs.map (·.2)) ∧ ∀ e ∈ es, ∃ k, (PySem.intKind X.prog X.w).is k e.key = true ∧ e.hash = (PySem.intKind X.prog X.w).hash k
  | [], ks, vs, kd, h1, h2, h3, h4, h5 => by
    cases h1; cases h2; cases h3
    exact ⟨[], .nil, rfl, .nil, fun _ h => nomatch h⟩
  | e :: es, _, _, _, h1, h2, h3, h4, h5 => by
    cases h1 with
    | @cons k u ks us r1 r2 =>
      cases h2 with
      | @cons v u' vs us' g1 g2 =>
        cases h3 with
        | @cons _ _ d kd f1 f2 =>
          rw [List.all_cons, Bool.and_eq_true] at h5
          obtain ⟨xs, a1, a2, a4, a5⟩ := ents_I es ks vs kd r2 g2 f2 (fun i e d k q1 q2 q3 => h4 (i + 1) e d k (by simpa using q1) (by simpa using q2) q3) h5.2
          obtain ⟨i, rfl⟩ := kyI_int h5.1
          have hh := h4 0 e (.int i) (.num i) (by simp) (by simp) rfl
          cases f1
          obtain ⟨t, ek⟩ := r1
          have ek : e.key = Value.int i t := ek
          have ik : (PySem.intKind X.prog X.w).is i e.key = true := by rw [ek]; exact intKind_is _ _ _ _
          refine ⟨(i, e.val) :: xs, .cons ik rfl a1, by rw [a2]; rfl, .cons g1 a4, fun x hx => ?_⟩
          rcases List.mem_cons.mp hx with rfl | hx
          · exact ⟨i, ik, hh⟩
          · exact a5 x hx
theorem nk_int {i j : Int} : (nkD (.int i) = nkD (.int j)) ↔ i = j := ⟨fun h => by
  have h : some (NestedKey.num i) = some (NestedKey.num j) := h
  cases h; rfl, fun h => by rw [h]⟩
theorem find_I : ∀ (xs : List (Int × Value)) (kvs : List (PyData × PyData)) (vs : List V) (i : Int), kvs.map Prod.fst = xs.map (fun x => PyData.int x.1) → Vals vs (xs.map (·.2)) → FzA O H vs (kvs.map Prod.snd) →
    (kAt kvs (.int i) = none → valueAt xs i = none) ∧ ∀ d, kAt kvs (.int i) = some d → ∃ u w, valueAt xs i = some u ∧ RelV w u ∧ Fz O H w d
  | [], kvs, vs, i, h1, h2, h3 => by
    have : kvs = [] := by simpa using h1
    subst this
    exact ⟨fun _ => rfl, fun d h => by cases h⟩
  | x :: xs, [], vs, i, h1, h2, h3 => by simp at h1
  | x :: xs, p :: kvs, vs, i, h1, h2, h3 => by
    rw [List.map_cons, List.map_cons] at h1
    obtain ⟨e1, e2⟩ := List.cons.inj h1
    cases h3 with
    | @cons v vs' _ _ f1 f2 =>
      cases h2 with
      | cons r1 r2 =>
        have ih := find_I xs kvs vs' i e2 r2 f2
        by_cases q : x.1 = i
        · have c1 : kAt (p :: kvs) (.int i) = some p.2 := by unfold kAt; rw [List.find?_cons, decide_eq_true (by rw [e1, nk_int]; exact q)]; rfl
          have c2 : valueAt (x :: xs) i = some x.2 := by unfold valueAt; rw [List.find?_cons, decide_eq_true q]; rfl
          rw [c1, c2]
          exact ⟨fun h => by (cases h), fun d h => by cases h; exact ⟨x.2, v, rfl, r1, f1⟩⟩
        · have c1 : kAt (p :: kvs) (.int i) = kAt kvs (.int i) := by unfold kAt; rw [List.find?_cons, decide_eq_false (by rw [e1, nk_int]; exact q)]
          have c2 : valueAt (x :: xs) i = valueAt xs i := by unfold valueAt; rw [List.find?_cons, decide_eq_false q]
          rw [c1, c2]
          exact ih
def repI (i : Int) (r : Value) (x : Int × Value) : Int × Value := if x.1 = i then (x.1, r) else x
theorem rep_I {d : PyData} {i : Int} {r : Value} {w : V} (rw' : RelV w r) (fw : Fz O H w d) : ∀ (xs : List (Int × Value)) (kvs : List (PyData × PyData)) (vs : List V), kvs.map Prod.fst = xs.map (fun x => PyData.int x.1) → Vals vs (xs.map (·.2)) → FzA O H vs (kvs.map Prod.snd) →
    ∃ vs', Vals vs' ((xs.map (repI i r)).map (·.2)) ∧ FzA O H vs' ((kvs.map (kRep (.int i) d)).map Prod.snd) ∧ (kvs.map (kRep (.int i) d)).map Prod.fst = (xs.map (repI i r)).map (fun x => PyData.int x.1)
  | [], kvs, vs, h1, h2, h3 => by
    have : kvs = [] := by simpa using h1
    subst this
    exact ⟨[], .nil, .nil, rfl⟩
  | x :: xs, [], vs, h1, h2, h3 => by simp at h1
  | x :: xs, p :: kvs, vs, h1, h2, h3 => by
    rw [List.map_cons, List.map_cons] at h1
    obtain ⟨e1, e2⟩ := List.cons.inj h1
    cases h3 with
    | @cons v vs' _ _ f1 f2 =>
      cases h2 with
      | cons r1 r2 =>
        obtain ⟨ws, a1, a2, a4⟩ := rep_I (i := i) rw' fw xs kvs vs' e2 r2 f2
        have b2 : (repI i r x).1 = x.1 := by unfold repI; split <;> rfl
        have b4 : (kRep (.int i) d p).1 = p.1 := by unfold kRep; split <;> rfl
        by_cases q : x.1 = i
        · have c1 : (kRep (.int i) d p).2 = d := by unfold kRep; rw [if_pos (by rw [e1, nk_int]; exact q)]
          have c2 : (repI i r x).2 = r := by unfold repI; rw [if_pos q]
          refine ⟨w :: ws, ?_, ?_, ?_⟩
          · rw [List.map_cons, List.map_cons, c2]; exact .cons rw' a1
          · rw [List.map_cons, List.map_cons, c1]; exact .cons fw a2
          · rw [List.map_cons, List.map_cons, List.map_cons, List.map_cons, b4, b2, e1, a4]
        · have c1 : (kRep (.int i) d p).2 = p.2 := by unfold kRep; rw [if_neg (by rw [e1, nk_int]; exact q)]
          have c2 : (repI i r x).2 = x.2 := by unfold repI; rw [if_neg q]
          refine ⟨v :: ws, ?_, ?_, ?_⟩
          · rw [List.map_cons, List.map_cons, c2]; exact .cons r1 a1
          · rw [List.map_cons, List.map_cons, c1]; exact .cons f1 a2
          · rw [List.map_cons, List.map_cons, List.map_cons, List.map_cons, b4, b2, e1, a4]
theorem dobj_I {h : Heap} {a : Addr} {xs : List (Int × Value)} {vs : List V} (hx : h.DictOf (PySem.intKind X.prog X.w) a xs) (hz : xs.length ≤ sizeLine) (rv : Vals vs (xs.map (·.2))) :
    ∃ o, h.get? a = some o ∧ DObj o (xs.map fun x => V.int x.1) vs (xs.map fun x => PyData.int x.1) := by
  obtain ⟨o, es, ep, h1, h2, h3, h4, h5, h6⟩ := hx
  have hl := h5.length
  have key : ∀ {es : List DictEntry} {xs : List (Int × Value)}, Pairs (PySem.intKind X.prog X.w) es xs → Vals (xs.map fun x => V.int x.1) (es.map (·.key)) ∧ es.map (·.val) = xs.map (·.2) ∧ ∀ (i : Nat) (e : DictEntry) (x : Int × Value), es[i]? = some e → xs[i]? = some x → (PySem.intKind X.prog X.w).is x.1 e.key = true := by
    intro es xs hp
    induction hp with
    | nil => exact ⟨.nil, rfl, fun i e x q => by simp at q⟩
    | @cons e kv es kvs q1 q2 q3 ih =>
      obtain ⟨t, ek⟩ := Value.isInt_shape q1
      refine ⟨.cons ⟨t, ek⟩ ih.1, by rw [List.map_cons, List.map_cons, q2, ih.2.1], fun i e' x g1 g2 => ?_⟩
      cases i with
      | zero => simp at g1 g2; subst g1; subst g2; exact q1
      | succ i => exact ih.2.2 i e' x (by simpa using g1) (by simpa using g2)
  obtain ⟨k1, k2, k3⟩ := key h5
  refine ⟨o, h1, es, ep, h2, h3, by rw [← Array.length_toList, hl]; exact hz, k1, by rw [k2]; exact rv, fun i e d k q1 q2 q3 => ?_, ?_⟩
  · rw [List.getElem?_map] at q2
    obtain ⟨x, q4, rfl⟩ := Option.map_eq_some_iff.mp q2
    cases q3
    have hi := k3 i e x q1 q4
    obtain ⟨k', g1, g2⟩ := h4 e (by have := List.mem_of_getElem? q1; simpa using this)
    have := (PySem.intKind X.prog X.w).inj _ _ _ hi g1
    subst this
    exact g2
  · have e1 : (xs.map fun x => PyData.int x.1).filterMap nkD = (xs.map (·.1)).map NestedKey.num := by
      rw [List.filterMap_map, List.map_map]
      clear h5 h6 hl key k1 k2 k3 hz rv
      induction xs with
      | nil => rfl
      | cons x xs ih => rw [List.filterMap_cons, List.map_cons, ← ih]; rfl
    rw [e1]
    exact List.Pairwise.map _ (fun a b h z => h (by cases z; rfl)) h6
end
end DL

/-! DL27: d[k], d.get(k, x), d[k] = v, d[k] += i, k in d -/
namespace DL
open PySem PySem.Spec PyProof.Rows L2
section
variable {X : Cx} {pins : List (Addr × Obj)} {σ : L2.St} {H : Hp} {s : Shared} {O : Ow} {a : Addr} {kvs : List (PyData × PyData)} {k d : PyData} {y v : V} {u r : Value} {A : Around} {E : Value → Shared → Prop}
/-- a dict with whole numbers as keys -/
def DcI (P : Program) (w : World) (h : Heap) (a : Addr) (H : Hp) (O : Ow) (kvs : List (PyData × PyData)) (xs : List (Int × Value)) (vs : List V) : Prop :=
  h.DictOf (PySem.intKind P w) a xs ∧ kvs.map Prod.fst = xs.map (fun x => PyData.int x.1) ∧ Vals vs (xs.map (·.2)) ∧ FzA O H vs (kvs.map Prod.snd) ∧ xs.length ≤ sizeLine
def DcT (P : Program) (w : World) (h : Heap) (a : Addr) (H : Hp) (O : Ow) (kvs : List (PyData × PyData)) (xs : List (NestedKey × Addr × Value)) (vs : List V) : Prop :=
  h.DictOfH (nestedKind P w) a xs ∧ kvs.map (fun p => nkD p.1) = xs.map (fun x => some x.1) ∧ Vals vs (xs.map (·.2.2)) ∧ FzA O H vs (kvs.map Prod.snd) ∧ FzA O H (xs.map fun x => V.ref x.2.1) (kvs.map Prod.fst) ∧ xs.length ≤ sizeLine
theorem dc_I (I : Inv X pins σ H s) (ho : Ob O H a (.dict kvs)) (hm : (kvs.all fun p => kyI p.1) = true) : ∃ xs vs, DcI X.prog X.w s.heap a H O kvs xs vs := by
  obtain ⟨o, ks, vs, hx, ⟨es, ep, ex, hd, hz, r1, r2, r3, r4⟩, f1, f2⟩ := ho
  have ho := xo_at I.hok hx
  have hm' : (kvs.map Prod.fst).all kyI = true := by rw [List.all_map]; exact hm
  obtain ⟨xs, a1, a2, a3, a4⟩ := ents_I es.toList ks vs _ r1 r2 f1 r3 hm'
  have hl := a1.length
  refine ⟨xs, vs, ⟨o, es, ep, ho, ex, hd, fun e he => a4 e (by simpa using he), a1, ?_⟩, a2, a3, f2, by rw [← hl, Array.length_toList]; exact hz⟩
  rw [a2] at r4
  have e1 : (xs.map fun x => PyData.int x.1).filterMap nkD = (xs.map (·.1)).map NestedKey.num := by
    rw [List.filterMap_map, List.map_map]
    clear a1 a2 a3 hl r4 hm hm' f1 f2
    induction xs with
    | nil => rfl
    | cons x xs ih => rw [List.filterMap_cons, List.map_cons, ← ih]; rfl
  rw [e1] at r4
  exact List.Pairwise.of_map _ (fun a b h z => h (by rw [z])) r4
theorem dc_T (I : Inv X pins σ H s) (ho : Ob O H a (.dict kvs)) (hm : (kvs.all fun p => kyT p.1) = true) : ∃ xs vs, DcT X.prog X.w s.heap a H O kvs xs vs := by
  obtain ⟨o, ks, vs, hx, ⟨es, ep, ex, hd, hz, r1, r2, r3, r4⟩, f1, f2⟩ := ho
  have ho := xo_at I.hok hx
  have hm' : (kvs.map Prod.fst).all kyT = true := by rw [List.all_map]; exact hm
  obtain ⟨xs, a1, a2, a3, a4, a5⟩ := ents_T I es.toList ks vs _ r1 r2 f1 r3 hm'
  have hl : es.size = xs.length := by rw [← Array.length_toList, a1, List.length_map]
  rw [List.map_map] at a2
  refine ⟨xs, vs, ⟨o, es, ep, ho, ex, hd, a1, a5, ?_⟩, a2, a4, f2, by rw [← a3]; exact f1, by rw [← hl]; exact hz⟩
  have e : (kvs.map Prod.fst).filterMap nkD = xs.map (·.1) := by
    have e : (kvs.map Prod.fst).filterMap nkD = (kvs.map (fun p => nkD p.1)).filterMap id := by rw [List.filterMap_map, List.filterMap_map]; rfl
    have a2 : kvs.map (fun p => nkD p.1) = xs.map (fun x => some x.1) := a2
    rw [e, a2, List.filterMap_map]
    clear a1 a2 a3 a4 a5 hl e r4 f1 f2 hm hm'
    induction xs with
    | nil => rfl
    | cons x xs ih => simp
  rw [e] at r4
  exact r4
theorem vw_ky (h : Vw O H y k) (hk : kyI k = true ∨ kyT k = true) : Fz O H y k := by
  rcases hk with hk | hk
  · obtain ⟨i, rfl⟩ := kyI_int hk
    have h : y = .int i := h
    subst h; exact .int i
  · obtain ⟨ds, rfl⟩ := kyT_tuple hk
    obtain ⟨a, xs, rfl, e, n, q⟩ := h
    exact .tup e n q
theorem kyT_ref (h : Fz O H y k) (hk : kyT k = true) : ∃ b, y = .ref b := by
  obtain ⟨ds, rfl⟩ := kyT_tuple hk
  cases h with
  | tup => exact ⟨_, rfl⟩
theorem in1_room (hu : A.units + 10 < cLine) : (nestedKind X.prog X.w).room A.in1 := by
  show A.in1.units + 8 < cLine
  rw [Around.in1_units]; omega
theorem xo_ns (I : Inv X pins σ H s) (ho : Ob O H a (.dict kvs)) : (a == sysModules) = false := by
  obtain ⟨o, ks, vs, hx, _⟩ := ho
  exact beq_eq_false_iff_ne.mpr (Ne.symm (Nat.ne_of_lt (xo_gt I.hok hx)))
/-- what d[k] tells -/
def KGot (O : Ow) (H : Hp) (kvs : List (PyData × PyData)) (k : PyData) (o : Option Value) : Prop :=
  (kAt kvs k = none → o = none) ∧ ∀ d, kAt kvs k = some d → ∃ u w, o = some u ∧ RelV w u ∧ Fz O H w d
theorem got_T {xs : List (NestedKey × Addr × Value)} {vs : List V} (D : DcT X.prog X.w s.heap a H O kvs xs vs) {nk : NestedKey} (h : nkD k = some nk) : KGot O H kvs k ((atKey xs nk).map (·.2)) := by
  obtain ⟨h1, h2⟩ := find_T xs kvs vs k nk D.2.1 D.2.2.1 D.2.2.2.1 h
  refine ⟨fun q => by rw [h1 q]; rfl, fun d q => ?_⟩
  obtain ⟨p, w, e, g1, g2⟩ := h2 d q
  exact ⟨p.2, w, by rw [e]; rfl, g1, g2⟩
theorem got_I {xs : List (Int × Value)} {vs : List V} {i : Int} (D : DcI X.prog X.w s.heap a H O kvs xs vs) : KGot O H kvs (.int i) (valueAt xs i) := find_I xs kvs vs i D.2.1 D.2.2.1 D.2.2.2.1
theorem mode_or (hm : dMode kvs k = true) : (kyI k = true ∧ (kvs.all fun p => kyI p.1) = true) ∨ (kyT k = true ∧ (kvs.all fun p => kyT p.1) = true) := by
  unfold dMode at hm
  rw [Bool.or_eq_true, Bool.and_eq_true, Bool.and_eq_true] at hm
  exact hm
theorem xd_getItem {Q : Value → Shared → Prop} (hu : A.units + 10 < cLine) (I : Inv X pins σ H s) (ho : Ob O H a (.dict kvs)) (hk : Vw O H y k) (ry : RelV y u) (hm : dMode kvs k = true) (hv : kAt kvs k = some d)
    (h : ∀ w w' s', Inv X pins σ H s' → RelV w w' → Fz O H w d → Q w' s') : wpAny (model X.prog X.w) A (getItem (.ref a) u) Q E s := by
  rcases mode_or hm with ⟨m1, m2⟩ | ⟨m1, m2⟩
  · obtain ⟨i, rfl⟩ := kyI_int m1
    have hk : y = .int i := hk
    subst hk
    obtain ⟨t, rfl⟩ := ry
    obtain ⟨xs, vs, D⟩ := dc_I I ho m2
    obtain ⟨u', w, e, g1, g2⟩ := (got_I D).2 d hv
    exact wpAny_getItem_of (intKind_is _ _ _ _) D.1.mapOf e (h w u' _ (I.tok _) g1 g2)
  · have f := vw_ky hk (.inr m1)
    obtain ⟨ks, hn, hd⟩ := kyT_some m1
    have hi := fz_nk I hn f ry
    obtain ⟨b, rfl⟩ := kyT_ref f m1
    cases (show u = Value.ref b from ry)
    obtain ⟨xs, vs, D⟩ := dc_T I ho m2
    obtain ⟨u', w, e, g1, g2⟩ := (got_T D hn).2 d hv
    obtain ⟨p, e1, rfl⟩ := Option.map_eq_some_iff.mp e
    exact wpAny_getItem_heap (in1_room hu) ⟨hi, hd⟩ D.1 e1 (h w p.2 _ (I.tok _) g1 g2)
theorem xd_in {Q : Value → Shared → Prop} (hu : A.units + 10 < cLine) (I : Inv X pins σ H s) (ho : Ob O H a (.dict kvs)) (hk : Vw O H y k) (ry : RelV y u) (hm : dMode kvs k = true)
    (h : ∀ s', Inv X pins σ H s' → Q (.bool (kAt kvs k).isSome) s') : wpAny (model X.prog X.w) A (compareOp .In u (.ref a)) Q E s := by
  have hns := xo_ns I ho
  have iso : ∀ {o : Option Value}, KGot O H kvs k o → (kAt kvs k).isSome = o.isSome := fun {o} g => by
    cases q : kAt kvs k with
    | none => rw [g.1 q]; rfl
    | some d => obtain ⟨u, w, e, _⟩ := g.2 d q; rw [e]; rfl
  rcases mode_or hm with ⟨m1, m2⟩ | ⟨m1, m2⟩
  · obtain ⟨i, rfl⟩ := kyI_int m1
    have hk : y = .int i := hk
    subst hk
    obtain ⟨t, rfl⟩ := ry
    obtain ⟨xs, vs, D⟩ := dc_I I ho m2
    refine wpAny_in_of (intKind_is _ _ _ _) hns D.1.mapOf ?_
    rw [← iso (got_I D)]
    exact h _ (I.tok _)
  · have f := vw_ky hk (.inr m1)
    obtain ⟨ks, hn, hd⟩ := kyT_some m1
    have hi := fz_nk I hn f ry
    obtain ⟨b, rfl⟩ := kyT_ref f m1
    cases (show u = Value.ref b from ry)
    obtain ⟨xs, vs, D⟩ := dc_T I ho m2
    refine wpAny_in_heap (in1_room hu) ⟨hi, hd⟩ hns D.1 ?_
    have := iso (got_T D hn)
    rw [Option.isSome_map] at this
    rw [← this]
    exact h _ (I.tok _)
theorem xd_get2 {Q : Value → Shared → Prop} {e : PyData} (hu : A.units + 10 < cLine) (I : Inv X pins σ H s) (ho : Ob O H a (.dict kvs)) (hk : Vw O H y k) (ry : RelV y u) (hm : dMode kvs k = true) (hf : Fz O H v e) (rv : RelV v r)
    (h : ∀ w w' s', Inv X pins σ H s' → RelV w w' → Fz O H w ((kAt kvs k).getD e) → Q w' s') : wpAny (model X.prog X.w) A (call (.builtin "dict.get") [.ref a, u, r]) Q E s := by
  have hns := xo_ns I ho
  have fin : ∀ {o : Option Value}, KGot O H kvs k o → ∃ w, RelV w (o.getD r) ∧ Fz O H w ((kAt kvs k).getD e) := fun {o} g => by
    cases q : kAt kvs k with
    | none => rw [g.1 q]; exact ⟨v, rv, hf⟩
    | some d => obtain ⟨u, w, e, g1, g2⟩ := g.2 d q; rw [e]; exact ⟨w, g1, g2⟩
  rcases mode_or hm with ⟨m1, m2⟩ | ⟨m1, m2⟩
  · obtain ⟨i, rfl⟩ := kyI_int m1
    have hk : y = .int i := hk
    subst hk
    obtain ⟨t, rfl⟩ := ry
    obtain ⟨xs, vs, D⟩ := dc_I I ho m2
    obtain ⟨w, g1, g2⟩ := fin (got_I D)
    exact call_meetsIn PySem.F.slot_dict_get D.1.typeIs PySem.F.entry_dict_get (PySem.F.args_dict_get_3 _ _ _) (meets_dict_get_default (PySem.intKind X.prog X.w) a (intKind_is _ _ _ _) hns r) ⟨_, D.1.mapOf, h w _ _ (I.tok _) g1 g2⟩
  · have f := vw_ky hk (.inr m1)
    obtain ⟨ks, hn, hd⟩ := kyT_some m1
    have hi := fz_nk I hn f ry
    obtain ⟨b, rfl⟩ := kyT_ref f m1
    cases (show u = Value.ref b from ry)
    obtain ⟨xs, vs, D⟩ := dc_T I ho m2
    obtain ⟨w, g1, g2⟩ := fin (got_T D hn)
    exact call_meetsIn PySem.F.slot_dict_get D.1.typeIs PySem.F.entry_dict_get (PySem.F.args_dict_get_3 _ _ _) (meetsH_dict_get_default (nestedKind X.prog X.w) a b hns r) ⟨in1_room hu, _, xs, ⟨hi, hd⟩, D.1, h w _ _ (I.tok _) g1 g2⟩
theorem kAt_rep_all {p : PyData → Bool} (hk : p k = true) (hs : (kvs.all fun q => p q.1) = true) : ((kPut kvs k d).all fun q => p q.1) = true := by
  unfold kPut
  split
  · rw [List.all_map]
    rw [List.all_eq_true] at hs ⊢
    intro x hx
    show p (kRep k d x).1 = true
    have : (kRep k d x).1 = x.1 := by unfold kRep; split <;> rfl
    rw [this]; exact hs x hx
  · rw [List.all_append, hs]; simp [hk]
/-- d[k] = v -/
theorem xd_setItem {Q : Unit → Shared → Prop} (hu : A.units + 10 < cLine) (I : Inv X pins σ H s) (ho : Ob O H a (.dict kvs)) (hO : O a) (hk : Vw O H y k) (ry : RelV y u) (hm : dMode kvs k = true) (hz : kvs.length < sizeLine) (hf : Fz O H v d) (rv : RelV v r)
    (h : ∀ o' s', Inv X pins σ (upd H a (XO o' a)) s' → Ob O (upd H a (XO o' a)) a (.dict (kPut kvs k d)) → Q () s') : wpAny (model X.prog X.w) A (setItem (.ref a) u r) Q E s := by
  have hns := xo_ns I ho
  obtain ⟨o, ks0, vs0, hx, _, fk, _⟩ := id ho
  have hgt := xo_gt I.hok hx
  have mu : Mut (H a) := by rw [hx]; exact True.intro
  have mono : ∀ {o' : Obj} (b : Addr) (q : HO), H b = some q → ¬ O b → upd H a (XO o' a) b = some q := fun b q e n => by rw [upd_ne (fun z => n (by rw [z]; exact hO))]; exact e
  rcases mode_or hm with ⟨m1, m2⟩ | ⟨m1, m2⟩
  · obtain ⟨i, rfl⟩ := kyI_int m1
    have hk : y = .int i := hk
    subst hk
    obtain ⟨t, rfl⟩ := ry
    obtain ⟨xs, vs, D⟩ := dc_I I ho m2
    have hl : xs.length = kvs.length := by have := congrArg List.length D.2.1; simpa using this.symm
    refine wpAny_setItem_pairs (hsz := D.2.2.2.2) (intKind_is _ _ _ _) D.1 fun h' dd' hs => ?_
    have key : ∃ vs', Vals vs' ((stored xs i r).map (·.2)) ∧ FzA O H vs' ((kPut kvs (.int i) d).map Prod.snd) ∧ (kPut kvs (.int i) d).map Prod.fst = (stored xs i r).map (fun x => PyData.int x.1) ∧ (stored xs i r).length ≤ sizeLine := by
      have g := got_I (i := i) D
      cases q : kAt kvs (.int i) with
      | none =>
        have e := g.1 q
        have e2 : stored xs i r = xs ++ [(i, r)] := by
          have : (xs.any fun kv => decide (kv.1 = i)) = false := by
            unfold valueAt at e
            rw [Option.map_eq_none_iff, List.find?_eq_none] at e
            rw [List.any_eq_false]
            intro x hx
            simpa using e x hx
          unfold stored
          rw [if_neg (by rw [this]; simp)]
        have e3 : kPut kvs (.int i) d = kvs ++ [(.int i, d)] := by unfold kPut; rw [q]; rfl
        rw [e2, e3]
        refine ⟨vs ++ [v], ?_, ?_, ?_, by rw [List.length_append, hl]; exact hz⟩
        · rw [List.map_append]; exact Vals.append D.2.2.1 (.cons rv .nil)
        · rw [List.map_append]; exact D.2.2.2.1.append (.cons hf .nil)
        · rw [List.map_append, List.map_append, D.2.1]; rfl
      | some d0 =>
        obtain ⟨u0, w0, e, _⟩ := g.2 d0 q
        have e2 : stored xs i r = xs.map (repI i r) := by
          have : (xs.any fun kv => decide (kv.1 = i)) = true := by
            unfold valueAt at e
            obtain ⟨p, hp, _⟩ := Option.map_eq_some_iff.mp e
            rw [List.any_eq_true]
            exact ⟨p, List.mem_of_find?_eq_some hp, by have := List.find?_some hp; simpa using this⟩
          unfold stored
          rw [if_pos this]; rfl
        have e3 : kPut kvs (.int i) d = kvs.map (kRep (.int i) d) := by unfold kPut; rw [q]; rfl
        obtain ⟨vs', a1, a2, a3⟩ := rep_I (i := i) rv hf xs kvs vs D.2.1 D.2.2.1 D.2.2.2.1
        rw [e2, e3]
        exact ⟨vs', a1, a2, a3, by rw [List.length_map]; exact D.2.2.2.2⟩
    obtain ⟨vs', a1, a2, a3, a4⟩ := key
    obtain ⟨o', ho', hd'⟩ := dobj_I dd' a4 a1
    refine h o' _ (d_write I mu hs ⟨o', ho'⟩ (xo_ok ho' hgt)) ⟨o', _, vs', upd_same, by rw [a3]; exact hd', ?_, a2.mono (fun b q e n => .of (mono b q e n)) (fun _ z => .inl z) _⟩
    rw [a3]
    have : ∀ l : List (Int × Value), FzA O (upd H a (XO o' a)) (l.map fun x => V.int x.1) (l.map fun x => PyData.int x.1) := fun l => by
      induction l with
      | nil => exact .nil
      | cons x l ih => exact .cons (.int _) ih
    exact this _
  · have f := vw_ky hk (.inr m1)
    obtain ⟨ks, hn, hd⟩ := kyT_some m1
    have hi := fz_nk I hn f ry
    obtain ⟨b, rfl⟩ := kyT_ref f m1
    cases (show u = Value.ref b from ry)
    obtain ⟨xs, vs, D⟩ := dc_T I ho m2
    have hl : xs.length = kvs.length := by have := congrArg List.length D.2.1; simpa using this.symm
    have hall : ((kPut kvs k d).map Prod.fst).all kyT = true := by rw [List.all_map]; exact kAt_rep_all m1 m2
    refine wpAny_setItem_heap (hsz := D.2.2.2.2.2) (in1_room hu) ⟨hi, hd⟩ D.1 fun h' dd' hs => ?_
    have key : ∃ vs', Vals vs' ((storedH xs (.tup ks) b r).map (·.2.2)) ∧ FzA O H vs' ((kPut kvs k d).map Prod.snd) ∧ FzA O H ((storedH xs (.tup ks) b r).map fun x => V.ref x.2.1) ((kPut kvs k d).map Prod.fst) ∧
        (kPut kvs k d).map (fun p => nkD p.1) = (storedH xs (.tup ks) b r).map (fun x => some x.1) ∧ (storedH xs (.tup ks) b r).length ≤ sizeLine := by
      have g := find_T xs kvs vs k (.tup ks) D.2.1 D.2.2.1 D.2.2.2.1 hn
      cases q : kAt kvs k with
      | none =>
        have e := g.1 q
        have e2 := storedH_new e b r
        have e3 : kPut kvs k d = kvs ++ [(k, d)] := by unfold kPut; rw [q]; rfl
        rw [e2, e3]
        refine ⟨vs ++ [v], ?_, ?_, ?_, ?_, by rw [List.length_append, hl]; exact hz⟩
        · rw [List.map_append]; exact Vals.append D.2.2.1 (.cons rv .nil)
        · rw [List.map_append]; exact D.2.2.2.1.append (.cons hf .nil)
        · rw [List.map_append, List.map_append]; exact D.2.2.2.2.1.append (.cons f .nil)
        · rw [List.map_append, List.map_append, D.2.1]
          show _ ++ [nkD k] = _ ++ [some (NestedKey.tup ks)]
          rw [hn]
      | some d0 =>
        obtain ⟨p, w0, e, _⟩ := g.2 d0 q
        have e2 : storedH xs (.tup ks) b r = xs.map (putAt (.tup ks) r) := by unfold storedH; rw [e]; rfl
        have e3 : kPut kvs k d = kvs.map (kRep k d) := by unfold kPut; rw [q]; rfl
        obtain ⟨vs', a1, a2, a3, a4⟩ := rep_T hn rv hf xs kvs vs D.2.1 D.2.2.1 D.2.2.2.1 D.2.2.2.2.1
        rw [e2, e3]
        exact ⟨vs', a1, a2, a3, a4, by rw [List.length_map]; exact D.2.2.2.2.2⟩
    obtain ⟨vs', a1, a2, a3, a4, a5⟩ := key
    have a4' : ((kPut kvs k d).map Prod.fst).map nkD = (storedH xs (.tup ks) b r).map (fun x => some x.1) := by rw [List.map_map]; exact a4
    obtain ⟨o', ho', hd'⟩ := dobj_T dd' a5 a1 a4' hall
    exact h o' _ (d_write I mu hs ⟨o', ho'⟩ (xo_ok ho' hgt)) ⟨o', _, vs', upd_same, hd', a3.mono (fun b q e n => .of (mono b q e n)) (fun _ z => .inl z) _, a2.mono (fun b q e n => .of (mono b q e n)) (fun _ z => .inl z) _⟩
end
end DL

/-! DL28: d[k], k in d, d.get(k, x), d[k] = v, d[k] += i read as functions on data -/
namespace DL
open PySem PySem.Spec PyProof.Rows L2
section
variable {X : Cx} {G : Gm} {W : Wi} {Z Z' : Ow} {B A A1 A2 A0 : Nat → Option Addr} {σ σ1 : L2.St} {H H1 H2 H0 : Hp} {ρ ρ1 ρ2 : Ev} {Q : VK} {v : V} {r : RV}
def optPR : Option PyData → PR
  | some d => .val d
  | none => .bad
/-! ### d[k] -/
def rGetD : R2 := fun x y H Q => ∃ a O kvs k d, x = V.ref a ∧ Ob O H a (.dict kvs) ∧ Vw O H y k ∧ dMode kvs k = true ∧ kAt kvs k = some d ∧ ∀ w, Fz O H w d → Q w H
theorem ob_type {pins : List (Addr × Obj)} {s : Shared} {O : Ow} {a : Addr} {kvs : List (PyData × PyData)} (I : Inv X pins σ H s) (ho : Ob O H a (.dict kvs)) : s.TypeIs (.ref a) "dict" ∧ ∀ b, Value.ref a = .ref b → ∃ ob, s.heap.get? b = some ob ∧ ob.dict = none := by
  obtain ⟨o, ks, vs, hx, ⟨es, ep, ex, _⟩, _⟩ := ho
  have ho := xo_at I.hok hx
  exact ⟨⟨o, ho, ex.1⟩, fun b e => by cases e; exact ⟨o, ho, ex.2.1⟩⟩
theorem pe_getD {o i : Expr} {td ty : TE} {pos : Pos} (hu : X.A.units + 10 < cLine) (ho : PE X o td) (hi : PE X i ty) (hs : NoSl i) : PE X (.Subscript o i pos) (tOp rGetD td ty) := by
  refine ⟨fun pins s σ H Q I h => ?_⟩
  refine subD_of PySem.F.slot_dict_getitem.lookup hs (thn (ho.run pins s σ H _ I h) fun u s1 ⟨x, H1, I1, rx, q1⟩ => thn (hi.run pins s1 σ H1 _ I1 q1) fun iv s2 ⟨y, H2, I2, ry, a, O, kvs, k, d, ex, g, hk, hm, hv, q2⟩ => ?_)
  subst ex
  obtain rfl : u = Value.ref a := rx
  exact ⟨(ob_type I2 g).1, xd_getItem hu I2 g hk ry hm hv fun w w' s3 I3 rw' f => ⟨w, H2, I3, rw', q2 w f⟩⟩
def gGetD : G2
  | .dict kvs, k => if dMode kvs k = true then optPR (kAt kvs k) else .bad
  | _, _ => .bad
theorem getD_S : Op2S rGetD gGetD := by
  intro O H x y dx dy Q hO hx hy h
  cases dx with
  | dict kvs =>
    by_cases hl : dMode kvs dy = true
    · simp only [gGetD, if_pos hl] at h
      cases q : kAt kvs dy with
      | none => rw [q] at h; exact h.elim
      | some d =>
        rw [q] at h
        obtain ⟨a, o, ks, vs, rfl, h1, h2, h3, h4⟩ := hx
        exact ⟨a, O, kvs, dy, d, rfl, ⟨o, ks, vs, h1, h2, h3, h4⟩, hy, hl, q, fun w f => h w H (.refl _) f⟩
    · simp only [gGetD, if_neg hl] at h; exact h.elim
  | _ => exact h.elim
theorem de_getD {a b : Expr} {ea eb : EvE} {pos : Pos} (hu : X.A.units + 66 < cLine) (ha : DE X G W a ea) (hb : DE X G W b eb) (hp : NoSl b) : DE X G W (.Subscript a b pos) (eOp gGetD ea eb) :=
  ⟨PE_imp (pe_getD (by omega) ha.pe hb.pe hp) fun σ H Q ⟨Z, B, ρ, A, R, d⟩ => op2_ok getD_S d R⟩
/-! ### k in d -/
def rInX : R2 := fun y x H Q => ∃ a O kvs k, x = V.ref a ∧ Ob O H a (.dict kvs) ∧ Vw O H y k ∧ dMode kvs k = true ∧ Q (.bl (kAt kvs k).isSome) H
theorem op_inX (hu : X.A.units + 66 < cLine) : OpR X (compareOp .In) rInX := by
  intro pins s σ H y x u v Q I ry rx h
  obtain ⟨a, O, kvs, k, rfl, g, hk, hm, q⟩ := h
  obtain rfl : v = Value.ref a := rx
  exact xd_in (by omega) I g hk ry hm fun s' I' => ⟨.bl _, H, I', rfl, q⟩
def gInX : G2
  | k, .dict kvs => if dMode kvs k = true then .val (.bool (kAt kvs k).isSome) else .bad
  | _, _ => .bad
theorem inX_S : Op2S rInX gInX := by
  intro O H x y dx dy Q hO hx hy h
  cases dy with
  | dict kvs =>
    by_cases hl : dMode kvs dx = true
    · simp only [gInX, if_pos hl] at h
      obtain ⟨a, o, ks, vs, rfl, h1, h2, h3, h4⟩ := hy
      exact ⟨a, O, kvs, dx, rfl, ⟨o, ks, vs, h1, h2, h3, h4⟩, hx, hl, h _ H (.refl _) (.bl _)⟩
    · simp only [gInX, if_neg hl] at h; exact h.elim
  | _ => exact h.elim
/-! ### d.get(k, x) -/
def isD : PyData → Bool
  | .dict _ => true
  | _ => false
def shr1 : RV → Option PyData
  | .shr d => some d
  | .tmp d => some d
  | .var _ => none
def get2R (ρ : Ev) : Option PyData → Option PyData → Option PyData → Ro RV
  | some (.dict kvs), some k, some x => if dMode kvs k = true then .ok (.shr ((kAt kvs k).getD x)) ρ else .bad
  | _, _, _ => .bad
def eGet2 (a b c : EvE) : EvE := fun ρ => (a ρ).bind fun r ρ1 => if kOf isD (res ρ1 r) = true then (b ρ1).bind fun s ρ2 => (c ρ2).bind fun t ρ3 => get2R ρ3 (res ρ3 r) (res ρ3 s) (shr1 t) else .bad
def tGet2D (td ty tx : TE) : TE := fun σ H Q => td σ H fun x H1 => ∃ a O kvs0, x = V.ref a ∧ Ob O H1 a (.dict kvs0) ∧ ty σ H1 fun y H2 => tx σ H2 fun z H3 => ∃ O kvs k e, Ob O H3 a (.dict kvs) ∧ Vw O H3 y k ∧ dMode kvs k = true ∧ Fz O H3 z e ∧ ∀ w, Fz O H3 w ((kAt kvs k).getD e) → Q w H3
theorem pe_get2D {o e f : Expr} {td ty tx : TE} {apos cpos : Pos} (hu : X.A.units + 10 < cLine) (ho : PE X o td) (he : PE X e ty) (hf : PE X f tx) (m : M2 X o "get" apos e f cpos) : PE X (.Call (.Attribute o "get" apos) [e, f] [] cpos) (tGet2D td ty tx) := by
  refine ⟨fun pins s σ H Q I h => ?_⟩
  refine wpAny_Call_method m.base m.few m.line PySem.F.plainAttrs_dict PySem.F.slot_dict_get PySem.F.type_dict_get (thn (ho.run pins s σ H _ I h) fun u s1 ⟨x, H1, I1, rx, a, O1, kvs0, ex, d, q1⟩ => ?_)
  subst ex
  obtain rfl : u = Value.ref a := rx
  obtain ⟨t1, t2⟩ := ob_type I1 d
  refine ⟨t1, t2, ?_⟩
  rw [m.trees]
  refine Calls.callWith_builtin rfl (Calls.evalArgs_plain (Calls.spliced_cons (thn (he.run pins s1 σ H1 _ I1 q1) fun iv s2 ⟨y, H2, I2, ry, q2⟩ =>
    Calls.spliced_cons (thn (hf.run pins s2 σ H2 _ I2 q2) fun fv s3 ⟨z, H3, I3, rz, O, kvs, k, e, g, hk, hm, fz, q3⟩ => Calls.spliced_nil ?_))))
  exact xd_get2 hu I3 g hk ry hm fz rz fun w w' s4 I4 rw' f => ⟨w, H3, I4, rw', q3 w f⟩
theorem shr1_fz {t : RV} {x : PyData} (h : HV Z A H σ v t) (e : shr1 t = some x) : Fz (Oo Z A) H v x := by
  cases t with
  | shr d => cases e; exact h
  | tmp d => cases e; exact h
  | var _ => cases e
theorem de_get2 {o e f : Expr} {eo ee ef : EvE} {apos cpos : Pos} (hu : X.A.units + 66 < cLine) (ho : DE X G W o eo) (he : DE X G W e ee) (hf : DE X G W f ef) (m : M2 X o "get" apos e f cpos) : DE X G W (.Call (.Attribute o "get" apos) [e, f] [] cpos) (eGet2 eo ee ef) :=
  ⟨PE_imp (pe_get2D (by omega) ho.pe he.pe hf.pe m) fun σ H Q ⟨Z, B, ρ, A, R, d⟩ => by
    refine dE_bind shift_E R d fun r1 ρ1 v H1 A1 R1 x1 f1 d1 => ?_
    by_cases hl : kOf isD (res ρ1 r1) = true
    · simp only [if_pos hl] at d1
      cases e1 : res ρ1 r1 with
      | none => rw [e1] at hl; cases hl
      | some dx =>
        rw [e1] at hl
        cases dx with
        | dict kvs0 =>
          obtain ⟨a, o, ks, vs, rfl, h1, h2, h3, h4⟩ := f1.vw R1 e1
          refine ⟨a, _, kvs0, rfl, ⟨o, ks, vs, h1, h2, h3, h4⟩, dE_bind shift_E R1 d1 fun r2 ρ2 y H2 A2 R2 x2 f2 d2 => dE_bind shift_E R2 d2 fun r3 ρ3 z H3 A3 R3 x3 f3 d3 => ?_⟩
          have f1' := (f1.evo x2).evo x3
          have f2' := f2.evo x3
          cases q1 : res ρ3 r1 with
          | none => rw [q1] at d3; exact d3.elim
          | some dx =>
            cases q2 : res ρ3 r2 with
            | none => rw [q1, q2] at d3; cases dx <;> exact d3.elim
            | some k =>
              cases q3 : shr1 r3 with
              | none => rw [q1, q2, q3] at d3; cases dx <;> exact d3.elim
              | some x =>
                rw [q1, q2, q3] at d3
                cases dx with
                | dict kvs =>
                  by_cases hm : dMode kvs k = true
                  · simp only [get2R, if_pos hm] at d3
                    obtain ⟨a', o', ks', vs', e', g1, g2, g3, g4⟩ := f1'.vw R3 q1
                    cases e'
                    exact ⟨_, kvs, k, x, ⟨o', ks', vs', g1, g2, g3, g4⟩, f2'.vw R3 q2, hm, shr1_fz f3 q3, fun w f => d3 w H3 A3 R3 .refl f⟩
                  · simp only [get2R, if_neg hm] at d3; exact d3.elim
                | none => exact d3.elim
                | bool _ => exact d3.elim
                | int _ => exact d3.elim
                | str _ => exact d3.elim
                | list _ => exact d3.elim
                | tuple _ => exact d3.elim
        | none => cases hl
        | bool _ => cases hl
        | int _ => cases hl
        | str _ => cases hl
        | list _ => cases hl
        | tuple _ => cases hl
    · simp only [if_neg hl] at d1; exact d1.elim⟩
/-! ### a dict that a slot owns, written -/
def wrD (ρ : Ev) (j : Nat) : Option (List (PyData × PyData) × Kd) := match look ρ j with
  | .dat (.dict ds) .own => some (ds, .own)
  | .dat (.dict ds) .par => some (ds, .par)
  | _ => none
theorem wrD_ok {j : Nat} {ds : List (PyData × PyData)} {k : Kd} (h : wrD ρ j = some (ds, k)) : look ρ j = .dat (.dict ds) k ∧ k ≠ .frz := by
  unfold wrD at h
  cases l : look ρ j with
  | non => simp [l] at h
  | scr ns => simp [l] at h
  | dat c k' =>
    cases c with
    | dict es => cases k' <;> simp [l] at h <;> (obtain ⟨rfl, rfl⟩ := h; exact ⟨rfl, by simp⟩)
    | none => simp [l] at h
    | bool _ => simp [l] at h
    | int _ => simp [l] at h
    | str _ => simp [l] at h
    | tuple _ => simp [l] at h
    | list _ => simp [l] at h
theorem Rep.ownD {j : Nat} {ds : List (PyData × PyData)} {k : Kd} (R : Rep G Z B σ H ρ A) (l : look ρ j = .dat (.dict ds) k) (hk : k ≠ .frz) : ∃ a, σ[j]? = some (some (.ref a)) ∧ A j = some a ∧ Ob (Oo Z A) H a (.dict ds) := by
  have q := R.at_ j
  rw [l] at q
  cases k with
  | frz => exact absurd rfl hk
  | own => obtain ⟨a, h0, h1, h2⟩ := q; exact ⟨a, h1, h0, h2⟩
  | par => obtain ⟨a, h0, _, h1, h2⟩ := q; exact ⟨a, h1, h0, h2⟩
theorem Rep.writeO {d d' : PyData} {k : Kd} {ob : HO} {i : Nat} {a : Addr} (R : Rep G Z B σ H ρ A) (l : look ρ i = .dat d k) (hk : k ≠ .frz) (hs : σ[i]? = some (some (.ref a))) (f' : Ob (Oo Z A) (upd H a ob) a d') :
    Rep G Z B σ (upd H a ob) (put ρ i (.dat d' k)) A ∧ Evo A H A (upd H a ob) := by
  have q := R.at_ i
  rw [l] at q
  have ha : A i = some a ∧ (k = .par → B i = some a) := by
    cases k with
    | frz => exact absurd rfl hk
    | own => obtain ⟨b, h0, h1, _⟩ := q; rw [hs] at h1; cases h1; exact ⟨h0, nofun⟩
    | par => obtain ⟨b, h0, hb, h1, _⟩ := q; rw [hs] at h1; cases h1; exact ⟨h0, fun _ => hb⟩
  have hn : ∃ u, H a = some u ∧ NTC u := by
    cases k with
    | frz => exact absurd rfl hk
    | own => obtain ⟨b, h0, h1, h2⟩ := q; rw [hs] at h1; cases h1; exact h2.ntc
    | par => obtain ⟨b, h0, hb, h1, h2⟩ := q; rw [hs] at h1; cases h1; exact h2.ntc
  have kp : ∀ b o, H b = some o → ¬ Oo Z A b → Kp (upd H a ob) b o := fun b o e n => .of (by
    rw [upd_ne (fun z => n (by rw [z]; exact .inr ⟨i, ha.1⟩))]; exact e)
  have dm : ∀ b, H b ≠ none → upd H a ob b ≠ none := fun b n => by
    by_cases e : b = a
    · rw [e, upd_same]; simp
    · rw [upd_ne e]; exact n
  refine ⟨⟨by rw [put_len, R.len], fun j => ?_, R.inj, R.apart, fun b z => dm b (R.zin b z), fun j b e => dm b (R.ain j b e), fun j b e => ?_, R.tab.upd hn.choose_spec.1 hn.choose_spec.2⟩, ⟨fun b o e n => .of (by rw [upd_ne (fun z => n i (by rw [z]; exact ha.1))]; exact e), fun b e => ?_, fun j b e => .inl ⟨j, e⟩⟩⟩
  · by_cases e : j = i
    · subst e
      rw [look_put_same (look_lt (by rw [l]; simp))]
      cases k with
      | frz => exact absurd rfl hk
      | own => exact ⟨a, ha.1, hs, f'⟩
      | par => exact ⟨a, ha.1, ha.2 rfl, hs, f'⟩
    · rw [look_put_ne e]
      have qj := R.at_ j
      cases lj : look ρ j with
      | non => trivial
      | scr ns =>
        rw [lj] at qj
        obtain ⟨b, h1, h2⟩ := qj
        exact ⟨b, h1, h2.mono kp fun _ z => .inl z⟩
      | dat c kc =>
        rw [lj] at qj
        have ne : ∀ b, A j = some b → b ≠ a := fun b e1 e2 => e (R.inj j i a (by rw [← e2]; exact e1) ha.1)
        cases kc with
        | frz => obtain ⟨w, h1, h2⟩ := qj; exact ⟨w, h1, h2.mono kp (fun _ z => .inl z) c⟩
        | own => obtain ⟨b, h0, h1, h2⟩ := qj; exact ⟨b, h0, h1, h2.mono kp (fun _ z => .inl z) fun o eo => .of (by rw [upd_ne (ne b h0)]; exact eo)⟩
        | par => obtain ⟨b, h0, hb, h1, h2⟩ := qj; exact ⟨b, h0, hb, h1, h2.mono kp (fun _ z => .inl z) fun o eo => .of (by rw [upd_ne (ne b h0)]; exact eo)⟩
  · obtain ⟨c, h⟩ := R.bpar j b e
    by_cases q : j = i
    · subst q
      rw [l] at h
      injection h with h1 h2
      exact ⟨d', by rw [look_put_same (look_lt (by rw [l]; simp)), h2]⟩
    · exact ⟨c, by rw [look_put_ne q]; exact h⟩
  · cases qh : H b with
    | none => rfl
    | some o => exact absurd e (dm b (by rw [qh]; simp))
/-- d[k] = e -/
def putD (j : Nat) (d : PyData) (ρ : Ev) : Option PyData → Option (List (PyData × PyData) × Kd) → Ro Fl
  | some k, some (kvs, kd) => if dMode kvs k = true ∧ kvs.length < 16777216 then .ok .nx (put ρ j (.dat (.dict (kPut kvs k d)) kd)) else .bad
  | _, _ => .bad
def putS (j : Nat) (ie : EvE) (d : PyData) (ρ : Ev) : Option (List (PyData × PyData) × Kd) → Ro Fl
  | some _ => (ie ρ).bind fun k ρ3 => putD j d ρ3 (res ρ3 k) (wrD ρ3 j)
  | none => .bad
def sDSet (j : Nat) (ie e : EvE) : EvS := fun ρ => (e ρ).bind fun r ρ1 => (escR ρ1 r).bind fun d ρ2 => putS j ie d ρ2 (wrD ρ2 j)
def sPutD (td ty tv : TE) : TS := fun D σ H => tv σ H fun v H1 => td σ H1 fun x H2 => ty σ H2 fun y H3 => ∃ a O kvs k d, x = V.ref a ∧ Ob O H3 a (.dict kvs) ∧ O a ∧ Vw O H3 y k ∧ dMode kvs k = true ∧ kvs.length < sizeLine ∧ Fz O H3 v d ∧
  ∀ o', Ob O (upd H3 a (XO o' a)) a (.dict (kPut kvs k d)) → D.nx σ (upd H3 a (XO o' a))
theorem ps_putD {o i value : Expr} {td ty tv : TE} {pos pos' : Pos} (hu : X.A.units + 10 < cLine) (ho : PE X o td) (hi : PE X i ty) (hv : PE X value tv) (hs : swapsWith value (some (.Subscript o i pos')) pos.line X.env = pure false) :
    PS X (.Assign [.Subscript o i pos'] value pos) (sPutD td ty tv) := by
  refine ⟨fun pins s σ H D I h => ?_⟩
  refine wpAny_Assign_Subscript (thn (hv.run pins s σ H _ I h) fun r s1 ⟨v, H1, I1, rv, q1⟩ => thn (ho.run pins s1 σ H1 _ I1 q1) fun u s2 ⟨x, H2, I2, rx, q2⟩ => thn (hi.run pins s2 σ H2 _ I2 q2) fun iv s3 ⟨y, H3, I3, ry, a, O, kvs, k, d, ex, g, gO, hk, hm, hz, fz, q3⟩ => ?_) hs
  subst ex
  obtain rfl : u = Value.ref a := rx
  exact xd_setItem hu I3 g gO hk ry hm hz fz rv fun o' s4 I4 g4 => ⟨σ, _, I4, q3 o' g4⟩
theorem lim_sz {n : Nat} (h : n < 16777216) : n < sizeLine := by rw [← lim_eq]; exact h
theorem ds_dset {j : Nat} {x : Str} {i e : Expr} {ea ei : EvE} {px pt pos : Pos} (hu : X.A.units + 66 < cLine) (hv : PE X (.Name x px) (tVar j)) (he : DE X G W e ea) (hi : DE X G W i ei)
    (hs : swapsWith e (some (.Subscript (.Name x px) i pt)) pos.line X.env = pure false := by rfl) : DS X G W (.Assign [.Subscript (.Name x px) i pt] e pos) (sDSet j ei ea) :=
  ⟨PS_imp (ps_putD (by omega) hv hi.pe he.pe hs) fun D σ H ⟨Z, B, ρ, A, R, d⟩ => dE_S R d fun r ρ1 v H1 A1 R1 x1 f1 d1 => by
    cases q : escR ρ1 r with
    | bad => rw [q] at d1; exact d1.elim
    | exc y ρ2 => exact absurd q escR_ne
    | ok c ρ2 =>
      rw [q] at d1
      obtain ⟨A2, R2, x2, f2⟩ := esc_ok R1 f1 q
      have d2 := SDn.shift x2 d1
      simp only [Ro.bind] at d2
      cases w0 : wrD ρ2 j with
      | none => rw [w0] at d2; exact d2.elim
      | some p0 =>
        obtain ⟨ds0, k0⟩ := p0
        rw [w0] at d2
        obtain ⟨a, ha, _⟩ := R2.ownD (wrD_ok w0).1 (wrD_ok w0).2
        refine ⟨_, ha, dE_S R2 d2 fun k ρ3 u H3 A3 R3 x3 f3 d3 => ?_⟩
        have fc := x3.fz f2
        cases e1 : res ρ3 k with
        | none => rw [e1] at d3; exact d3.elim
        | some c1 =>
          cases w1 : wrD ρ3 j with
          | none => rw [e1, w1] at d3; exact d3.elim
          | some p1 =>
            obtain ⟨kvs, kd⟩ := p1
            rw [e1, w1] at d3
            by_cases hm : dMode kvs c1 = true ∧ kvs.length < 16777216
            · simp only [putD, if_pos hm] at d3
              have g := f3.vw R3 e1
              obtain ⟨b, hb, hA, hH⟩ := R3.ownD (wrD_ok w1).1 (wrD_ok w1).2
              rw [ha] at hb; cases hb
              refine ⟨a, _, kvs, c1, c, rfl, hH, .inr ⟨j, hA⟩, g, hm.1, lim_sz hm.2, fc, fun o' g' => ?_⟩
              obtain ⟨R4, x4⟩ := R3.writeO (wrD_ok w1).1 (wrD_ok w1).2 ha g'
              exact d3 _ _ _ R4 x4
            · simp only [putD, if_neg hm] at d3; exact d3.elim⟩
end
end DL

/-! DL29: a list comprehension with two fors, the second over a tuple that stands in a slot -/
namespace DL
open PySem PySem.Spec PyProof.Rows L2
section
variable {X : Cx} {G : Gm} {W : Wi} {Z Z' : Ow} {B A A1 A2 A0 : Nat → Option Addr} {σ σ1 : L2.St} {H H1 H2 H0 : Hp} {ρ ρ1 ρ2 : Ev} {Q : VK} {v : V} {r : RV}
def tupAt (ρ : Ev) (i : Nat) : Option (List PyData) := match look ρ i with
  | .dat (.tuple ds) .frz => some ds
  | _ => none
theorem tupAt_ok {i : Nat} {ds : List PyData} (h : tupAt ρ i = some ds) : look ρ i = .dat (.tuple ds) .frz := by
  unfold tupAt at h
  cases l : look ρ i with
  | non => simp [l] at h
  | scr _ => simp [l] at h
  | dat c k =>
    cases c with
    | tuple es => cases k <;> simp [l] at h; rw [h]
    | none => simp [l] at h
    | bool _ => simp [l] at h
    | int _ => simp [l] at h
    | str _ => simp [l] at h
    | list _ => simp [l] at h
    | dict _ => simp [l] at h
def lc2L (g : EvG) (t : EvT) (i1 : Nat) (g1 : EvG) (t1 : EvT) (e : EvE) (vs vs1 : List Nat) : List PyData → Ev → Option (List PyData × Ev)
  | [], ρ => some ([], ρ)
  | d :: ds, ρ => match g d ρ with
    | none => none
    | some ρ1 => match t ρ1 with
      | .ok true ρ2 => match tupAt ρ2 i1 with
        | some its1 => if vs1.all (wipable ρ2) = true then (match lcL g1 t1 e vs1 its1 (wipeE ρ2 vs1) with
          | some (ys, ρ4) => if vs.all (wipable ρ4) = true then (match lc2L g t i1 g1 t1 e vs vs1 ds (wipeE ρ4 vs) with
            | some (xs, ρ') => some (ys ++ xs, ρ')
            | none => none) else none
          | none => none) else none
        | none => none
      | .ok false ρ2 => if vs.all (wipable ρ2) = true then lc2L g t i1 g1 t1 e vs vs1 ds (wipeE ρ2 vs) else none
      | _ => none
def eLc2 (iv : EvI) (g : EvG) (t : EvT) (i1 : Nat) (g1 : EvG) (t1 : EvT) (e : EvE) (vs vs1 : List Nat) : EvE := fun ρ => (iv ρ).bind fun its ρ1 => if vs.all (wipable ρ1) = true then (match lc2L g t i1 g1 t1 e vs vs1 its (wipeE ρ1 vs) with
  | some (xs, ρ2) => if xs.length ≤ lim then .ok (.tmp (.list xs)) (restore ρ1 ρ2 vs) else .bad
  | none => .bad) else .bad
theorem Fz.updZ {D : Addr} {o : HO} {x : V} {d : PyData} (f : Fz (Oo (Zx Z D) A) H x d) : Fz (Oo (Zx Z D) A) (upd H D o) x d :=
  f.mono (fun b u e n => .of (by rw [upd_ne (fun z => n (.inl (.inr z)))]; exact e)) (fun _ z => .inl z) d
/-- a tuple in a slot, walked -/
def iTupV (K : PySem.W.Frag) (i : Nat) : TI := fun σ H R => ∃ a xs, σ[i]? = some (some (V.ref a)) ∧ SqT K H a xs ∧ R (Itt K a) H
theorem wipe_two {vs vs1 : List Nat} (h : ∀ i ∈ vs1, i ∈ vs) (σ : L2.St) : L2.wipe (L2.wipe σ vs1) vs = L2.wipe σ vs :=
  wipe_agr (ws := vs1) ⟨wipe_length σ vs1, fun i h => wipe_out' h⟩ vs h
theorem lc2_ok {U : Bool} {iv : EvI} {g g1 : EvG} {t t1 : EvT} {ev : EvE} {ws ws1 vs vs1 : List Nat} {i1 : Nat} (hw : ∀ i ∈ ws, i ∈ vs) (hw1 : ∀ i ∈ ws1, i ∈ vs1) (hv1 : ∀ i ∈ vs1, i ∈ vs) (h : dE G W (eLc2 iv g t i1 g1 t1 ev vs vs1) σ H Q) :
    tLc2 (dI G W U iv) (dG G U ws g) (dT G Wn t) (iTupV X.K i1) (dG G false ws1 g1) (dT G Wn t1) (dE G Wn (eEsc ev)) vs vs1 σ H Q := by
  obtain ⟨Z, B, ρ, A, R, d⟩ := h
  refine ⟨Z, B, ρ, A, R, ?_⟩
  unfold eLc2 at d
  cases e : iv ρ with
  | bad => rw [e] at d; exact d.elim
  | exc y ρ1 => rw [e] at d; exact d
  | ok its ρ1 =>
    rw [e] at d
    simp only [Ro.bind] at d
    by_cases hl : vs.all (wipable ρ1) = true
    · rw [if_pos hl] at d
      intro J H1 A1 R1 x1 io
      have d1 := d.shift shift_E x1
      intro D hD
      have xD : Ext H1 (upd H1 D (.lst [])) := .new hD
      have R1D : Rep G (Zx Z D) B σ (upd H1 D (.lst [])) ρ1 A1 := R1.newZ xD hD (by rw [upd_same]; simp)
      obtain ⟨A2, R2, x2⟩ := R1D.wipe vs hl
      cases el : lc2L g t i1 g1 t1 ev vs vs1 its (wipeE ρ1 vs) with
      | none => simp only [el] at d1; exact d1.elim
      | some p =>
        obtain ⟨full, ρf⟩ := p
        simp only [el] at d1
        by_cases hz : full.length ≤ lim
        · rw [if_pos hz] at d1
          have x12 : Evo A1 H1 A2 (upd H1 D (.lst [])) := (Evo.ext xD).trans x2
          have zz : ∀ a, Zx Z D a → Z a ∨ H1 a = none := fun a z => z.elim .inl fun z => .inr (by rw [z]; exact hD)
          refine ⟨fun i m H' => i + m = its.length ∧ ∃ ρ' A' xs acc tail, Rep G (Zx Z D) B (L2.wipe σ vs) H' ρ' A' ∧ Evo A1 H1 A' H' ∧ H' D = some (.lst xs) ∧ FzA (Oo (Zx Z D) A') H' xs acc ∧ lc2L g t i1 g1 t1 ev vs vs1 (its.drop i) ρ' = some (tail, ρf) ∧ acc ++ tail = full,
            ⟨its.length, by omega, _, A2, [], [], full, R2, x12, upd_same, .nil, el, rfl⟩, fun i m H' ⟨em, ρ', A', xs, acc, tail, R', x', hx, fx, et, ef⟩ => ?_⟩
          obtain ⟨go, stop, yld⟩ := io (Zx Z D) A' H' zz (fun a z => z.elim (R'.zin a) fun ⟨j, z⟩ => R'.ain j a z) x'
          by_cases hlt : i < its.length
          · have dr : its.drop i = its[i] :: its.drop (i + 1) := List.drop_eq_getElem_cons hlt
            rw [dr] at et
            unfold lc2L at et
            refine .inr ⟨go i hlt, fun H2 => ∃ ρ' A' xs acc tail, Rep G (Zx Z D) B (L2.wipe σ vs) H2 ρ' A' ∧ Evo A1 H1 A' H2 ∧ H2 D = some (.lst xs) ∧ FzA (Oo (Zx Z D) A') H2 xs acc ∧ lc2L g t i1 g1 t1 ev vs vs1 (its.drop (i + 1)) ρ' = some (tail, ρf) ∧ acc ++ tail = full, fun H2 q => ⟨m - 1, by omega, by omega, q⟩, fun y H2 hy => ?_⟩
            obtain ⟨y2, c, ec, fc⟩ := yld i y H2 hlt hy
            rw [List.getElem?_eq_getElem hlt] at ec; cases ec
            cases eg : g its[i] ρ' with
            | none => simp only [eg] at et; cases et
            | some ρ2 =>
              simp only [eg] at et
              have R2' := R'.ext y2
              refine ⟨Zx Z D, B, ρ', A', its[i], ρ2, R2', fc, eg, fun σ3 A3 R3 x3 ag => ?_⟩
              have ew : L2.wipe σ3 vs = L2.wipe σ vs := (wipe_agr ag vs hw).trans (wipe_idem σ vs)
              have x03 : Evo A1 H1 A3 H2 := (x'.trans (.ext y2)).trans x3
              have hx3 : H2 D = some (.lst xs) := y2 D _ hx
              have fx3 : FzA (Oo (Zx Z D) A3) H2 xs acc := x3.fzA (fx.ext y2)
              refine ⟨ew, Zx Z D, B, ρ2, A3, R3, ?_⟩
              cases t2 : t ρ2 with
              | bad => simp only [t2] at et; cases et
              | exc y ρ3 => simp only [t2] at et; cases et
              | ok b ρ3 =>
                cases b with
                | false =>
                  simp only [t2] at et
                  intro H4 A4 R4 x4
                  show if false = true then _ else _
                  rw [if_neg Bool.false_ne_true]
                  by_cases wq : vs.all (wipable ρ3) = true
                  · rw [if_pos wq] at et
                    obtain ⟨A5, R5, x5⟩ := R4.wipe vs wq
                    rw [ew] at R5
                    exact ⟨_, A5, xs, acc, tail, R5, (x03.trans x4).trans x5, x4.keep D _ hx3 fun j z => R3.apart j D z (.inr rfl), x5.fzA (x4.fzA fx3), et, ef⟩
                  · rw [if_neg wq] at et; cases et
                | true =>
                  simp only [t2] at et
                  intro H4 A4 R4 x4
                  show if true = true then _ else _
                  rw [if_pos rfl]
                  cases ea : tupAt ρ3 i1 with
                  | none => simp only [ea] at et; cases et
                  | some its1 =>
                    simp only [ea] at et
                    by_cases wp : vs1.all (wipable ρ3) = true
                    · rw [if_pos wp] at et
                      cases ei : lcL g1 t1 ev vs1 its1 (wipeE ρ3 vs1) with
                      | none => simp only [ei] at et; cases et
                      | some p1 =>
                        obtain ⟨ys, ρ4⟩ := p1
                        simp only [ei] at et
                        by_cases wq : vs.all (wipable ρ4) = true
                        · rw [if_pos wq] at et
                          cases er : lc2L g t i1 g1 t1 ev vs vs1 (its.drop (i + 1)) (wipeE ρ4 vs) with
                          | none => simp only [er] at et; cases et
                          | some p2 =>
                            obtain ⟨rest, ρr⟩ := p2
                            simp only [er] at et
                            cases et
                            have hx4 : H4 D = some (.lst xs) := x4.keep D _ hx3 fun j z => R3.apart j D z (.inr rfl)
                            have fx4 : FzA (Oo (Zx Z D) A4) H4 xs acc := x4.fzA fx3
                            have q4 := R4.at_ i1
                            rw [tupAt_ok ea] at q4
                            obtain ⟨w, hs, fw⟩ := q4
                            cases fw with
                            | @tup a us _ ta na fa =>
                              have ft : Fz (Oo (Zx Z D) A4) H4 (V.ref a) (.tuple its1) := .tup ta na fa
                              obtain ⟨A5, R5, x5⟩ := R4.wipe vs1 wp
                              refine ⟨a, us, hs, ta.sq, fun j k H' => j + k = its1.length ∧ ∃ ρ' A' xs acc tail, Rep G (Zx Z D) B (L2.wipe σ3 vs1) H' ρ' A' ∧ Evo A1 H1 A' H' ∧ H' D = some (.lst xs) ∧ FzA (Oo (Zx Z D) A') H' xs acc ∧ Fz (Oo (Zx Z D) A') H' (V.ref a) (.tuple its1) ∧
                                  lcL g1 t1 ev vs1 (its1.drop j) ρ' = some (tail, ρ4) ∧ acc ++ (tail ++ rest) = full,
                                ⟨its1.length, by omega, _, A5, xs, acc, ys, R5, (x03.trans x4).trans x5, hx4, x5.fzA fx4, x5.fz ft, ei, ef⟩, fun j k H' ⟨em1, ρ', A', xs, acc, tail, R', x', hx, fx, ft, et1, ef1⟩ => ?_⟩
                              obtain ⟨vs', tv, fv⟩ : ∃ us, TrT H' a us ∧ FzA (Oo (Zx Z D) A') H' us its1 := by
                                cases ft with
                                | tup t n f => exact ⟨_, t, f⟩
                              by_cases hj : j < its1.length
                              · have dr1 : its1.drop j = its1[j] :: its1.drop (j + 1) := List.drop_eq_getElem_cons hj
                                rw [dr1] at et1
                                unfold lcL at et1
                                have hjv : j < vs'.length := by rw [fv.len]; exact hj
                                refine .inr ⟨⟨vs', vs'[j], tv.sq, List.getElem?_eq_getElem hjv⟩, fun H2 => ∃ ρ' A' xs acc tail, Rep G (Zx Z D) B (L2.wipe σ3 vs1) H2 ρ' A' ∧ Evo A1 H1 A' H2 ∧ H2 D = some (.lst xs) ∧ FzA (Oo (Zx Z D) A') H2 xs acc ∧ Fz (Oo (Zx Z D) A') H2 (V.ref a) (.tuple its1) ∧
                                  lcL g1 t1 ev vs1 (its1.drop (j + 1)) ρ' = some (tail, ρ4) ∧ acc ++ (tail ++ rest) = full, fun H2 q => ⟨k - 1, by omega, by omega, q⟩, fun y H2 hy => ?_⟩
                                obtain ⟨eH, hy⟩ := hy
                                subst eH
                                have hy := hy vs' tv.sq
                                obtain ⟨y', e1, fy⟩ := fv.get (List.getElem?_eq_getElem hj)
                                rw [hy] at e1
                                cases e1
                                cases eg1 : g1 its1[j] ρ' with
                                | none => simp only [eg1] at et1; cases et1
                                | some ρ5 =>
                                  simp only [eg1] at et1
                                  refine ⟨Zx Z D, B, ρ', A', its1[j], ρ5, R', .inl fy, eg1, fun σ6 A6 R6 x6 ag1 => ?_⟩
                                  have ew1 : L2.wipe σ6 vs1 = L2.wipe σ3 vs1 := (wipe_agr ag1 vs1 hw1).trans (wipe_idem σ3 vs1)
                                  refine ⟨ew1, Zx Z D, B, ρ5, A6, R6, ?_⟩
                                  have fx6 := x6.fzA fx
                                  have ft6 := x6.fz ft
                                  cases t3 : t1 ρ5 with
                                  | bad => simp only [t3] at et1; cases et1
                                  | exc y ρ3 => simp only [t3] at et1; cases et1
                                  | ok b ρ7 =>
                                    cases b with
                                    | false =>
                                      simp only [t3] at et1
                                      intro H7 A7 R7 x7
                                      show if false = true then _ else _
                                      rw [if_neg Bool.false_ne_true]
                                      by_cases wr : vs1.all (wipable ρ7) = true
                                      · rw [if_pos wr] at et1
                                        obtain ⟨A8, R8, x8⟩ := R7.wipe vs1 wr
                                        rw [ew1] at R8
                                        exact ⟨_, A8, xs, acc, tail, R8, ((x'.trans x6).trans x7).trans x8, x7.keep D _ hx fun j z => R6.apart j D z (.inr rfl), x8.fzA (x7.fzA fx6), x8.fz (x7.fz ft6), et1, ef1⟩
                                      · rw [if_neg wr] at et1; cases et1
                                    | true =>
                                      simp only [t3] at et1
                                      intro H7 A7 R7 x7
                                      show if true = true then _ else _
                                      rw [if_pos rfl]
                                      refine ⟨Zx Z D, B, ρ7, A7, R7, ?_⟩
                                      cases e3 : eEsc ev ρ7 with
                                      | bad => simp only [e3] at et1; cases et1
                                      | exc y ρ4 => simp only [e3] at et1; cases et1
                                      | ok r ρ8 =>
                                        cases r with
                                        | var _ => simp only [e3] at et1; cases et1
                                        | tmp _ => simp only [e3] at et1; cases et1
                                        | shr c =>
                                          simp only [e3] at et1
                                          by_cases wr : vs1.all (wipable ρ8) = true
                                          · rw [if_pos wr] at et1
                                            cases et2 : lcL g1 t1 ev vs1 (its1.drop (j + 1)) (wipeE ρ8 vs1) with
                                            | none => simp only [et2] at et1; cases et1
                                            | some p2 =>
                                              obtain ⟨tl, ρ9⟩ := p2
                                              simp only [et2] at et1
                                              cases et1
                                              intro v H9 A9 R9 x9 f9
                                              have x79 := x7.trans x9
                                              have hx9 : H9 D = some (.lst xs) := x79.keep D _ hx fun j z => R6.apart j D z (.inr rfl)
                                              have fx9 : FzA (Oo (Zx Z D) A9) H9 xs acc := x79.fzA fx6
                                              have ft9 := x79.fz ft6
                                              have hlen : acc.length < lim := by
                                                have := congrArg List.length ef1
                                                simp only [List.length_append, List.length_cons] at this
                                                omega
                                              refine ⟨xs, hx9, by rw [fx9.len, ← lim_eq]; exact hlen, ?_⟩
                                              obtain ⟨A10, R10, x10⟩ := (R9.updZ (o := .lst (xs ++ [v])) hx9 ntc_lst).wipe vs1 wr
                                              rw [ew1] at R10
                                              exact ⟨_, A10, xs ++ [v], acc ++ [c], tl, R10, (Evo.updN hD ((x'.trans x6).trans x79)).trans x10, upd_same, x10.fzA (FzA.updZ (fx9.append (.cons f9 .nil))), x10.fz (Fz.updZ ft9), et2, by rw [List.append_assoc]; exact ef1⟩
                                          · rw [if_neg wr] at et1; cases et1
                              · refine .inl ⟨⟨vs', tv.sq, by rw [fv.len]; omega⟩, ?_⟩
                                have dr1 : its1.drop j = [] := List.drop_eq_nil_of_le (by omega)
                                rw [dr1] at et1
                                unfold lcL at et1
                                cases et1
                                obtain ⟨A8, R8, x8⟩ := R'.wipe vs wq
                                rw [wipe_two hv1 σ3, ew] at R8
                                exact ⟨_, A8, xs, acc, rest, R8, x'.trans x8, hx, x8.fzA fx, er, ef1⟩
                        · rw [if_neg wq] at et; cases et
                    · rw [if_neg wp] at et; cases et
          · refine .inl ⟨stop i (by omega), ?_⟩
            have dr : its.drop i = [] := List.drop_eq_nil_of_le (by omega)
            rw [dr] at et
            unfold lc2L at et
            cases et
            have eF : acc = full := by rw [← ef, List.append_nil]
            subst eF
            exact d1 D H' A' (R1.restore R' x' zz hl) x' hD ⟨xs, hx, fx⟩
        · rw [if_neg hz] at d1; exact d1.elim
    · rw [if_neg hl] at d; exact d.elim
end
end DL

/-! DL30: rules of comprehensions with two fors; x[a], x[b] = e -/
namespace DL
open PySem PySem.Spec PyProof.Rows L2
section
variable {X : Cx} {G : Gm} {W : Wi} {Z Z' : Ow} {B A A1 A2 A0 : Nat → Option Addr} {σ σ1 : L2.St} {H H1 H2 H0 : Hp} {ρ ρ1 ρ2 : Ev} {Q : VK} {v : V} {r : RV}
theorem pi_tupV {i : Nat} {tg e : Expr} (he : PE X e (tVar i)) : PI X tg e (iTupV X.K i) :=
  ⟨fun pins s σ H R I ⟨a, xs, h1, h2, h3⟩ => (pi_tup he).run pins s σ H R I ⟨.ref a, h1, a, rfl, ⟨xs, h2⟩, h3⟩⟩
theorem de_lc2 {U : Bool} {elt tg iter tg1 iter1 : Expr} {ifs ifs1 : List Expr} {scope : Scope} {own : List (Str × Nat)} {pos : Pos} {iv : EvI} {g g1 : EvG} {t t1 : EvT} {ev : EvE} {ws ws1 vs1 : List Nat} {i1 : Nat} (hc : X.calm = true) (hN : X.N.Nodup) (hi : DI X G W U tg iter iv) (ok : BlkOk X.N X.env.scope scope own)
    (hw : ∀ i ∈ ws, i ∈ own.map (·.2)) (hw1 : ∀ i ∈ ws1, i ∈ vs1) (hv1 : ∀ i ∈ vs1, i ∈ own.map (·.2))
    (hg : ∀ (s : Shared) (H : Hp) (C : Addr) (cl : List (Str × Addr)) (fp : List Addr), DG (X.blk s H scope (compEnvC scope cl C X.env) fp) G U tg ws g) (ht : ∀ (s : Shared) (H : Hp) (C : Addr) (cl : List (Str × Addr)) (fp : List Addr), DTs (X.blk s H scope (compEnvC scope cl C X.env) fp) G Wn ifs t)
    (hi1 : ∀ (s : Shared) (H : Hp) (C : Addr) (cl : List (Str × Addr)) (fp : List Addr), PE (X.blk s H scope (compEnvC scope cl C X.env) fp) iter1 (tVar i1))
    (hg1 : ∀ (s : Shared) (H : Hp) (C : Addr) (cl : List (Str × Addr)) (fp : List Addr), DG (X.blk s H scope (compEnvC scope cl C X.env) fp) G false tg1 ws1 g1) (ht1 : ∀ (s : Shared) (H : Hp) (C : Addr) (cl : List (Str × Addr)) (fp : List Addr), DTs (X.blk s H scope (compEnvC scope cl C X.env) fp) G Wn ifs1 t1)
    (he : ∀ (s : Shared) (H : Hp) (C : Addr) (cl : List (Str × Addr)) (fp : List Addr), DE (X.blk s H scope (compEnvC scope cl C X.env) fp) G Wn elt ev) (hs : ∀ x, foldedSetIterable iter X.env x = pure x := by intro _; rfl) (hs1 : ∀ env x, foldedSetIterable iter1 env x = pure x := by intro _ _; rfl) :
    DE X G W (.ListComp elt [⟨tg, iter, ifs, 0⟩, ⟨tg1, iter1, ifs1, 0⟩] scope pos) (eLc2 iv g t i1 g1 t1 ev (own.map (·.2)) vs1) :=
  ⟨PE_imp (pe_lc2 hc hN hi.pi ok hv1 (fun s H C cl fp => (hg s H C cl fp).pg) (fun s H C cl fp => (ht s H C cl fp).pt) (fun s H C cl fp => pi_tupV (hi1 s H C cl fp)) (fun s H C cl fp => (hg1 s H C cl fp).pg) (fun s H C cl fp => (ht1 s H C cl fp).pt) (fun s H C cl fp => (de_esc (he s H C cl fp)).pe) hs hs1)
    fun σ H Q h => lc2_ok hw hw1 hv1 h⟩
theorem ds_setLc2 {U : Bool} {i : Nat} {y : Str} {py : Pos} {elt tg iter tg1 iter1 : Expr} {ifs ifs1 : List Expr} {scope : Scope} {own : List (Str × Nat)} {pos spos : Pos} {iv : EvI} {g g1 : EvG} {t t1 : EvT} {ev : EvE} {ws ws1 vs1 : List Nat} {i1 : Nat} (hc : X.calm = true) (hN : X.N.Nodup)
    (hy : X.N[i]? = some y) (hyl : X.env.scope.names.lookup y = some .local) (hsw : swapsWith (.ListComp elt [⟨tg, iter, ifs, 0⟩, ⟨tg1, iter1, ifs1, 0⟩] scope pos) (some (.Name y py)) spos.line X.env = pure true) (hi : DI X G W U tg iter iv) (ok : BlkOk X.N X.env.scope scope own)
    (hw : ∀ i ∈ ws, i ∈ own.map (·.2)) (hw1 : ∀ i ∈ ws1, i ∈ vs1) (hv1 : ∀ i ∈ vs1, i ∈ own.map (·.2))
    (hg : ∀ (s : Shared) (H : Hp) (C : Addr) (cl : List (Str × Addr)) (fp : List Addr), DG (X.blk s H scope (compEnvC scope cl C X.env) fp) G U tg ws g) (ht : ∀ (s : Shared) (H : Hp) (C : Addr) (cl : List (Str × Addr)) (fp : List Addr), DTs (X.blk s H scope (compEnvC scope cl C X.env) fp) G Wn ifs t)
    (hi1 : ∀ (s : Shared) (H : Hp) (C : Addr) (cl : List (Str × Addr)) (fp : List Addr), PE (X.blk s H scope (compEnvC scope cl C X.env) fp) iter1 (tVar i1))
    (hg1 : ∀ (s : Shared) (H : Hp) (C : Addr) (cl : List (Str × Addr)) (fp : List Addr), DG (X.blk s H scope (compEnvC scope cl C X.env) fp) G false tg1 ws1 g1) (ht1 : ∀ (s : Shared) (H : Hp) (C : Addr) (cl : List (Str × Addr)) (fp : List Addr), DTs (X.blk s H scope (compEnvC scope cl C X.env) fp) G Wn ifs1 t1)
    (he : ∀ (s : Shared) (H : Hp) (C : Addr) (cl : List (Str × Addr)) (fp : List Addr), DE (X.blk s H scope (compEnvC scope cl C X.env) fp) G Wn elt ev) (hs : ∀ x, foldedSetIterable iter X.env x = pure x := by intro _; rfl) (hs1 : ∀ env x, foldedSetIterable iter1 env x = pure x := by intro _ _; rfl) :
    DS X G W (.Assign [.Name y py] (.ListComp elt [⟨tg, iter, ifs, 0⟩, ⟨tg1, iter1, ifs1, 0⟩] scope pos) spos) (sSet i (eLc2 iv g t i1 g1 t1 ev (own.map (·.2)) vs1)) :=
  ⟨PS_imp (ps_setLc2 hc hN hy hyl hsw hi.pi ok hv1 (fun s H C cl fp => (hg s H C cl fp).pg) (fun s H C cl fp => (ht s H C cl fp).pt) (fun s H C cl fp => pi_tupV (hi1 s H C cl fp)) (fun s H C cl fp => (hg1 s H C cl fp).pg) (fun s H C cl fp => (ht1 s H C cl fp).pt) (fun s H C cl fp => (de_esc (he s H C cl fp)).pe) hs hs1)
    fun D σ H ⟨Z, B, ρ, A, R, d⟩ => lc2_ok hw hw1 hv1 (set_ok R d)⟩
/-! ### x[a], x[b] = e -/
def twoOf : PyData → Option (PyData × PyData)
  | .tuple [a, b] => some (a, b)
  | _ => none
def intAt (ρ : Ev) (i : Nat) : Option Int := match look ρ i with
  | .dat (.int n) .frz => some n
  | _ => none
def swapR (j : Nat) (ρ : Ev) : Option (PyData × PyData) → Option Int → Option Int → Option (List PyData × Kd) → Ro Fl
  | some p, some x, some y, some q => match ixN q.1.length x, ixN q.1.length y with
    | some m, some n => .ok .nx (put ρ j (.dat (.list ((q.1.set m p.1).set n p.2)) q.2))
    | _, _ => .bad
  | _, _, _, _ => .bad
def sSwap (j a b : Nat) (e : EvE) : EvS := fun ρ => (e ρ).bind fun r ρ1 => (escR ρ1 r).bind fun d ρ2 => swapR j ρ2 (twoOf d) (intAt ρ2 a) (intAt ρ2 b) (wr ρ2 j)
theorem intAt_ok {i : Nat} {n : Int} (R : Rep G Z B σ H ρ A) (h : intAt ρ i = some n) : σ[i]? = some (some (V.int n)) := by
  unfold intAt at h
  have q := R.at_ i
  cases l : look ρ i with
  | non => simp [l] at h
  | scr _ => simp [l] at h
  | dat c k =>
    cases c with
    | int m =>
      cases k with
      | frz =>
        simp [l] at h; subst h
        rw [l] at q
        obtain ⟨w, h1, h2⟩ := q
        cases h2
        exact h1
      | own => simp [l] at h
      | par => simp [l] at h
    | none => simp [l] at h
    | bool _ => simp [l] at h
    | str _ => simp [l] at h
    | list _ => simp [l] at h
    | tuple _ => simp [l] at h
    | dict _ => simp [l] at h
theorem ds_swap {j a b : Nat} {x : Str} {ia ib e : Expr} {ea : EvE} {px px2 pt pt2 ptt pos : Pos} {kt : Nat} (hc : X.calm = true) (hv : PE X (.Name x px) (tVar j)) (hv2 : PE X (.Name x px2) (tVar j)) (ha : PE X ia (tVar a)) (hb : PE X ib (tVar b)) (haj : a ≠ j) (hbj : b ≠ j) (he : DE X G W e ea)
    (hs : swapsWithSole [.Tuple [.Subscript (.Name x px) ia pt, .Subscript (.Name x px2) ib pt2] kt ptt] e pos.line X.env = pure false := by rfl) (hw : swappedStores [.Tuple [.Subscript (.Name x px) ia pt, .Subscript (.Name x px2) ib pt2] kt ptt] e X.env = pure none := by rfl)
    (h1 : (assignEach [.Tuple [.Subscript (.Name x px) ia pt, .Subscript (.Name x px2) ib pt2] kt ptt] X.env).map (·.2) = [assign (.Tuple [.Subscript (.Name x px) ia pt, .Subscript (.Name x px2) ib pt2] kt ptt) X.env] := by rfl)
    (hg : PG X (.Tuple [.Subscript (.Name x px) ia pt, .Subscript (.Name x px2) ib pt2] kt ptt) (gTup X.K 2 (gCons (L2.gSub (tVar j) (tVar a) rSetL) (gCons (L2.gSub (tVar j) (tVar b) rSetL) gNil)))) :
    DS X G W (.Assign [.Tuple [.Subscript (.Name x px) ia pt, .Subscript (.Name x px2) ib pt2] kt ptt] e pos) (sSwap j a b ea) := by
  refine ⟨PS_imp (ps_asg he.pe hg hs hw h1) fun D σ H ⟨Z, B, ρ, A, R, d⟩ => dE_S R d fun r ρ1 v H1 A1 R1 x1 f1 d1 => ?_⟩
  cases q : escR ρ1 r with
  | bad => rw [q] at d1; exact d1.elim
  | exc y ρ2 => exact absurd q escR_ne
  | ok c ρ2 =>
    rw [q] at d1
    obtain ⟨A2, R2, x2, f2⟩ := esc_ok R1 f1 q
    have d2 := SDn.shift x2 d1
    simp only [Ro.bind] at d2
    cases q1 : twoOf c with
    | none => rw [q1] at d2; exact d2.elim
    | some p =>
      obtain ⟨d1', d2'⟩ := p
      cases q2 : intAt ρ2 a with
      | none => rw [q1, q2] at d2; exact d2.elim
      | some na =>
        cases q3 : intAt ρ2 b with
        | none => rw [q1, q2, q3] at d2; exact d2.elim
        | some nb =>
          cases q4 : wr ρ2 j with
          | none => rw [q1, q2, q3, q4] at d2; exact d2.elim
          | some p4 =>
            obtain ⟨ds, kd⟩ := p4
            rw [q1, q2, q3, q4] at d2
            simp only [swapR] at d2
            cases q5 : ixN ds.length na with
            | none => simp only [q5] at d2; exact d2.elim
            | some m =>
              cases q6 : ixN ds.length nb with
              | none => simp only [q5, q6] at d2; exact d2.elim
              | some n =>
                simp only [q5, q6] at d2
                have ec : c = .tuple [d1', d2'] := by
                  unfold twoOf at q1
                  split at q1
                  · cases q1; rfl
                  · cases q1
                subst ec
                cases f2 with
                | @tup t us _ tt nt ft =>
                  cases ft with
                  | @cons u1 _ _ _ g1 gr =>
                    cases gr with
                    | @cons u2 _ _ _ g2 gr =>
                      cases gr
                      obtain ⟨o, xs, ho, hA, hH, fx⟩ := R2.own (wr_ok q4).1 (wr_ok q4).2
                      obtain ⟨_, R3, x3⟩ := R2.write (wr_ok q4).1 (wr_ok q4).2 ho (FzA.set g1 m fx)
                      have g2' := x3.fz g2
                      have ho3 := ho
                      have l3 : look (put ρ2 j (.dat (.list (ds.set m d1')) kd)) j = .dat (.list (ds.set m d1')) kd := look_put_same (look_lt (by rw [(wr_ok q4).1]; simp))
                      have fx3 : FzA (Oo Z A2) (upd H1 o (.lst (xs.set m u1))) (xs.set m u1) (ds.set m d1') := by
                        obtain ⟨o', xs', ho', hA', hH', fx'⟩ := R3.own l3 (wr_ok q4).2
                        rw [ho] at ho'; cases ho'
                        rw [upd_same] at hH'; cases hH'
                        exact fx'
                      obtain ⟨_, R4, x4⟩ := R3.write l3 (wr_ok q4).2 ho (FzA.set g2' n fx3)
                      refine ⟨t, [u1, u2], rfl, tt.sq, rfl, u1, [u2], rfl, ?_⟩
                      refine ⟨V.ref o, ho, V.int na, intAt_ok R2 q2, o, xs, na, m, rfl, rfl, hH, by rw [fx.len]; exact q5, u2, [], rfl, ?_⟩
                      refine ⟨V.ref o, ho, V.int nb, intAt_ok R2 q3, o, xs.set m u1, nb, n, rfl, rfl, upd_same, by rw [List.length_set, fx.len]; exact q6, rfl, ?_⟩
                      have ep : put (put ρ2 j (.dat (.list (ds.set m d1')) kd)) j (.dat (.list ((ds.set m d1').set n d2')) kd) = put ρ2 j (.dat (.list ((ds.set m d1').set n d2')) kd) := by
                        have : ∀ (r : Ev) (i : Nat) (s t : Sl), put (put r i s) i t = put r i t := by
                          intro r
                          induction r with
                          | nil => intro i s t; rfl
                          | cons x r ih =>
                            intro i s t
                            cases i with
                            | zero => rfl
                            | succ i => show x :: put (put r i s) i t = x :: put r i t; rw [ih]
                        exact this _ _ _ _
                      rw [ep] at R4
                      exact d2 σ _ A2 R4 (x3.trans x4)
end
end DL

/-! DL31: equations of DL28 .. DL30 -/
namespace DL
open PySem PySem.Spec PyProof.Rows L2
theorem o_getD {kvs : List (PyData × PyData)} {k : PyData} : gGetD (.dict kvs) k = if dMode kvs k = true then optPR (kAt kvs k) else .bad := rfl
theorem optPR_ {d : PyData} : optPR (some d) = .val d := rfl
theorem o_inX {kvs : List (PyData × PyData)} {k : PyData} : gInX k (.dict kvs) = if dMode kvs k = true then .val (.bool (kAt kvs k).isSome) else .bad := rfl
theorem eGet2_ {a b c : EvE} {ρ : Ev} : eGet2 a b c ρ = (a ρ).bind fun r ρ1 => if kOf isD (res ρ1 r) = true then (b ρ1).bind fun s ρ2 => (c ρ2).bind fun t ρ3 => get2R ρ3 (res ρ3 r) (res ρ3 s) (shr1 t) else .bad := rfl
theorem get2R_ {ρ : Ev} {kvs : List (PyData × PyData)} {k x : PyData} : get2R ρ (some (.dict kvs)) (some k) (some x) = if dMode kvs k = true then .ok (.shr ((kAt kvs k).getD x)) ρ else .bad := rfl
theorem shr1_shr {d : PyData} : shr1 (.shr d) = some d := rfl
theorem shr1_tmp {d : PyData} : shr1 (.tmp d) = some d := rfl
theorem isD_d {kvs : List (PyData × PyData)} : isD (.dict kvs) = true := rfl
theorem sDSet_ {j : Nat} {ie e : EvE} {ρ : Ev} : sDSet j ie e ρ = (e ρ).bind fun r ρ1 => (escR ρ1 r).bind fun d ρ2 => putS j ie d ρ2 (wrD ρ2 j) := rfl
theorem putS_ {j : Nat} {ie : EvE} {d : PyData} {ρ : Ev} {p : List (PyData × PyData) × Kd} : putS j ie d ρ (some p) = (ie ρ).bind fun k ρ3 => putD j d ρ3 (res ρ3 k) (wrD ρ3 j) := rfl
theorem putD_ {j : Nat} {d k : PyData} {ρ : Ev} {kvs : List (PyData × PyData)} {kd : Kd} : putD j d ρ (some k) (some (kvs, kd)) = if dMode kvs k = true ∧ kvs.length < 16777216 then .ok .nx (put ρ j (.dat (.dict (kPut kvs k d)) kd)) else .bad := rfl
def slWD : Sl → Option (List (PyData × PyData) × Kd)
  | .dat (.dict ds) .own => some (ds, .own)
  | .dat (.dict ds) .par => some (ds, .par)
  | _ => none
theorem wrD_ {ρ : Ev} {j : Nat} : wrD ρ j = slWD (look ρ j) := by
  unfold wrD slWD
  cases look ρ j with
  | non => rfl
  | scr _ => rfl
  | dat c k => cases c <;> cases k <;> rfl
theorem slWD_own {ds : List (PyData × PyData)} : slWD (.dat (.dict ds) .own) = some (ds, .own) := rfl
theorem slWD_par {ds : List (PyData × PyData)} : slWD (.dat (.dict ds) .par) = some (ds, .par) := rfl
/-! comprehensions with two fors -/
def lc2W (g : EvG) (t : EvT) (i1 : Nat) (g1 : EvG) (t1 : EvT) (e : EvE) (vs vs1 : List Nat) (its : List PyData) (ρ : Ev) (Q : List PyData → Ev → Prop) (_ : U Q) : Prop := ∃ xs ρ', lc2L g t i1 g1 t1 e vs vs1 its ρ = some (xs, ρ') ∧ xs.length ≤ 16777216 ∧ Q xs ρ'
theorem wp_eLc2 {iv : EvI} {g : EvG} {t : EvT} {i1 : Nat} {g1 : EvG} {t1 : EvT} {e : EvE} {vs vs1 : List Nat} {ρ : Ev} {Q : RV → Ev → Prop} {v : U Q} :
    Wp (eLc2 iv g t i1 g1 t1 e vs vs1 ρ) Q v = Wp (iv ρ) (fun its ρ1 => vs.all (wipable ρ1) = true ∧ lc2W g t i1 g1 t1 e vs vs1 its (wipeE ρ1 vs) (fun xs ρ2 => Q (.tmp (.list xs)) (restore ρ1 ρ2 vs)) ⟨⟩) ⟨⟩ := by
  refine wp_bind.trans ?_
  refine wp_cg fun its ρ1 => ?_
  rw [wp_if, wp_bad, if_F]
  congr 1
  unfold lc2W
  cases lc2L g t i1 g1 t1 e vs vs1 its (wipeE ρ1 vs) with
  | none => exact wp_bad.trans (propext ⟨False.elim, fun ⟨_, _, e, _⟩ => (nomatch e)⟩)
  | some p =>
    obtain ⟨xs, ρ2⟩ := p
    show Wp (if xs.length ≤ lim then .ok (.tmp (.list xs)) (restore ρ1 ρ2 vs) else .bad) Q _ = _
    rw [wp_if, wp_bad, if_F, wp_ok]
    exact propext ⟨fun ⟨h, q⟩ => ⟨_, _, rfl, h, q⟩, fun ⟨_, _, e, h, q⟩ => by cases e; exact ⟨h, q⟩⟩
theorem lc2W_flat {g : EvG} {t : EvT} {i1 : Nat} {g1 : EvG} {t1 : EvT} {e : EvE} {vs vs1 : List Nat} {Q : List PyData → Ev → Prop} (F : PyData → List PyData) (its : List PyData) {ρ : Ev} {u : U Q}
    (step : ∀ d, d ∈ its → gW g d ρ (fun ρ1 => Wp (t ρ1) (fun c ρ2 => c = true ∧ ∃ its1, tupAt ρ2 i1 = some its1 ∧ vs1.all (wipable ρ2) = true ∧ lcW g1 t1 e vs1 its1 (wipeE ρ2 vs1) (fun ys ρ4 => ys = F d ∧ vs.all (wipable ρ4) = true ∧ wipeE ρ4 vs = ρ) ⟨⟩) ⟨⟩) ⟨⟩)
    (hl : (its.flatMap F).length ≤ 16777216) (fin : Q (its.flatMap F) ρ) : lc2W g t i1 g1 t1 e vs vs1 its ρ Q u := by
  have key : ∀ its : List PyData, (∀ d, d ∈ its → gW g d ρ (fun ρ1 => Wp (t ρ1) (fun c ρ2 => c = true ∧ ∃ its1, tupAt ρ2 i1 = some its1 ∧ vs1.all (wipable ρ2) = true ∧ lcW g1 t1 e vs1 its1 (wipeE ρ2 vs1) (fun ys ρ4 => ys = F d ∧ vs.all (wipable ρ4) = true ∧ wipeE ρ4 vs = ρ) ⟨⟩) ⟨⟩) ⟨⟩) →
      lc2L g t i1 g1 t1 e vs vs1 its ρ = some (its.flatMap F, ρ) := by
    intro its
    induction its with
    | nil => intro _; rfl
    | cons d ds ih =>
      intro h
      obtain ⟨ρ1, e1, c, ρ2, e2, rfl, its1, h1, h2, ys, ρ4, h3, rfl, h4, h5⟩ := h d (List.mem_cons_self ..)
      have e := ih fun x hx => h x (List.mem_cons_of_mem _ hx)
      unfold lc2L
      simp only [e1, e2, h1, h2, if_true, h3, h4, h5, e, List.flatMap_cons]
  exact ⟨_, _, key its step, hl, fin⟩
def slTup : Sl → Option (List PyData)
  | .dat (.tuple ds) .frz => some ds
  | _ => none
theorem tupAt_ {ρ : Ev} {i : Nat} : tupAt ρ i = slTup (look ρ i) := by
  unfold tupAt slTup
  cases look ρ i with
  | non => rfl
  | scr _ => rfl
  | dat c k => cases c <;> cases k <;> rfl
theorem slTup_ {ds : List PyData} : slTup (.dat (.tuple ds) .frz) = some ds := rfl
/-! x[a], x[b] = e -/
theorem sSwap_ {j a b : Nat} {e : EvE} {ρ : Ev} : sSwap j a b e ρ = (e ρ).bind fun r ρ1 => (escR ρ1 r).bind fun d ρ2 => swapR j ρ2 (twoOf d) (intAt ρ2 a) (intAt ρ2 b) (wr ρ2 j) := rfl
theorem twoOf_ {a b : PyData} : twoOf (.tuple [a, b]) = some (a, b) := rfl
def slInt : Sl → Option Int
  | .dat (.int n) .frz => some n
  | _ => none
theorem intAt_ {ρ : Ev} {i : Nat} : intAt ρ i = slInt (look ρ i) := by
  unfold intAt slInt
  cases look ρ i with
  | non => rfl
  | scr _ => rfl
  | dat c k => cases c <;> cases k <;> rfl
theorem slInt_ {n : Int} : slInt (.dat (.int n) .frz) = some n := rfl
theorem wp_swap {j : Nat} {ρ : Ev} {p : PyData × PyData} {x y : Int} {ds : List PyData} {kd : Kd} {Q : Fl → Ev → Prop} {v : U Q} :
    Wp (swapR j ρ (some p) (some x) (some y) (some (ds, kd))) Q v = oW (ixN ds.length x) (fun m => oW (ixN ds.length y) (fun n => Q .nx (put ρ j (.dat (.list ((ds.set m p.1).set n p.2)) kd))) ⟨⟩) ⟨⟩ := by
  show Wp (match ixN ds.length x, ixN ds.length y with | some m, some n => Ro.ok Fl.nx (put ρ j (.dat (.list ((ds.set m p.1).set n p.2)) kd)) | _, _ => Ro.bad) Q v = _
  cases ixN ds.length x with
  | none => rw [oW_none]; exact wp_bad
  | some m =>
    cases ixN ds.length y with
    | none => rw [oW_some, oW_none]; exact wp_bad
    | some n => rw [oW_some, oW_some]; exact wp_ok
/-! keys -/
theorem kAt_nil {k : PyData} : kAt [] k = none := rfl
end DL

/-! DL32: dicts walked: for .. in d, d.values(), d.items() -/
namespace DL
open PySem PySem.Spec PyProof.Rows L2
section
variable {X : Cx} {pins : List (Addr × Obj)} {σ : L2.St} {H : Hp} {s : Shared} {O : Ow} {a : Addr} {kvs : List (PyData × PyData)}
/-- a dict's entries -/
theorem ob_raw (I : Inv X pins σ H s) (ho : Ob O H a (.dict kvs)) : ∃ o es ep ks vs, H a = some (XO o a) ∧ o.ExactDict ∧ o.data = .dict es ep ∧ s.heap.DictRaw a es ep ∧ es.size ≤ sizeLine ∧ es.size = kvs.length ∧ (a == sysModules) = false ∧
    Vals ks (es.toList.map (·.key)) ∧ Vals vs (es.toList.map (·.val)) ∧ FzA O H ks (kvs.map Prod.fst) ∧ FzA O H vs (kvs.map Prod.snd) := by
  have hns := xo_ns I ho
  obtain ⟨o, ks, vs, hx, ⟨es, ep, ex, hd, hz, r1, r2, _, _⟩, f1, f2⟩ := ho
  have h1 := xo_at I.hok hx
  refine ⟨o, es, ep, ks, vs, hx, ex, hd, ⟨o, h1, ex, hd⟩, hz, ?_, hns, r1, r2, f1, f2⟩
  have e1 : ks.length = es.size := by simpa using r1.length
  have e2 : ks.length = kvs.length := by simpa using f1.len
  omega
def tyD (x : V) (H : Hp) : Prop := ∃ a O kvs, x = V.ref a ∧ Ob O H a (.dict kvs)
theorem ty_D : TyOk X "dict" tyD := fun pins σ H s x v I r ⟨a, O, kvs, ex, g⟩ => by
  subst ex
  obtain rfl : v = Value.ref a := r
  exact ob_type I g
/-- the iterators -/
def ItdX (a : Addr) (o : Obj) (vs : List V) : It := ⟨fun i H => H a = some (XO o a) ∧ i < vs.length, fun i H x H' => H' = H ∧ vs[i]? = some x, fun i H => H a = some (XO o a) ∧ vs.length ≤ i⟩
def ItiX (a : Addr) (o : Obj) (ks vs : List V) : It := ⟨fun i H => H a = some (XO o a) ∧ i < vs.length, fun i H x H' => ∃ T k v, ks[i]? = some k ∧ vs[i]? = some v ∧ x = V.ref T ∧ H T = none ∧ H' = upd H T (.tup [k, v]), fun i H => H a = some (XO o a) ∧ vs.length ≤ i⟩
theorem vals_at {es : Array DictEntry} {vs : List V} {f : DictEntry → Value} (rv : Vals vs (es.toList.map f)) {i : Nat} (hi : i < vs.length) : ∃ h : i < es.size, RelV vs[i] (f es[i]) := by
  have hl : vs.length = es.size := by simpa using rv.length
  obtain ⟨u, hu, ru⟩ := rv.get (List.getElem?_eq_getElem hi)
  have h : i < es.size := by omega
  rw [List.getElem?_map, Array.getElem?_toList, Array.getElem?_eq_getElem h] at hu
  cases hu
  exact ⟨h, ru⟩
theorem vals_sz {es : Array DictEntry} {vs : List V} {f : DictEntry → Value} (rv : Vals vs (es.toList.map f)) : vs.length = es.size := by
  simpa using rv.length
end
section
variable {P : Program} {w : World} {K : PySem.W.Frag} {tg : Expr} {a : Addr} {o : Obj} {es : Array DictEntry} {ep : Nat} {ks vs : List V}
theorem turn_keysX (it : Addr) (hod : o.data = .dict es ep) (hx : o.ExactDict) (rv : Vals vs (es.toList.map (·.key))) : Turn P w K tg (ItdX a o vs) [it] it (fun i h => h.IsKeyIter it a i es.size ep) where
  mem := by simp
  obj := fun i h st b hb => by
    have e : b = it := by simpa using hb
    subst e
    obtain ⟨oi, e, c, dd⟩ := st
    exact ⟨oi, e, fun v z => by rw [dd] at z; cases z⟩
  keep := fun i h h' st k => st.at fun oi e => k it (by simp) oi e
  item := by
    intro X hP hw hK hc i pins s σ H E I hf st hg
    subst hP hw hK
    obtain ⟨hd, hi⟩ := hg
    obtain ⟨f0, f1, f2, f3, f4, f5⟩ := hf it (by simp)
    have hm : s.heap.DictRaw a es ep := ⟨o, xo_at I.hok hd, hx, hod⟩
    obtain ⟨hlt, ru⟩ := vals_at rv hi
    refine wpAny_pyNext_keys_item_raw st hm hlt fun h' st' sb => ?_
    have I1 : Inv X pins σ H { s with heap := h' } := I.turned (t' := s.toks) (fun b ob hb e => (sb.2 b hb).trans e) f0 f1 f3 f4 f5
    obtain ⟨oi, e, c, dd⟩ := id st'
    exact ⟨_, rfl, go_of (s := { s with heap := h' }) e c dd (by decide) ⟨_, H, I1, ru, ⟨rfl, List.getElem?_eq_getElem hi⟩, st', fun b hb => (hf b hb).1⟩⟩
  done := by
    intro X hP hw hK hc i pins s σ H E I hf st hg
    subst hP hw hK
    obtain ⟨hd, hi⟩ := hg
    obtain ⟨f0, f1, f2, f3, f4, f5⟩ := hf it (by simp)
    have hm : s.heap.DictRaw a es ep := ⟨o, xo_at I.hok hd, hx, hod⟩
    have := vals_sz rv
    exact wpAny_pyNext_keys_end_raw (I.ok.hd hc) st hm (by omega) fun h' eb => ⟨rfl, I.turned (t' := s.toks) (fun b ob hb e => eb b ob hb e) f0 f1 f3 f4 f5⟩
  self := fun A i s Q E st h => wpAny_pyIter_keyiter st h
theorem turn_valsX (it : Addr) (hod : o.data = .dict es ep) (hx : o.ExactDict) (rv : Vals vs (es.toList.map (·.val))) : Turn P w K tg (ItdX a o vs) [it] it (fun i h => h.IsValIter it a i es.size ep) where
  mem := by simp
  obj := fun i h st b hb => by
    have e : b = it := by simpa using hb
    subst e
    obtain ⟨oi, e, c, dd⟩ := st
    exact ⟨oi, e, fun v z => by rw [dd] at z; cases z⟩
  keep := fun i h h' st k => st.at fun oi e => k it (by simp) oi e
  item := by
    intro X hP hw hK hc i pins s σ H E I hf st hg
    subst hP hw hK
    obtain ⟨hd, hi⟩ := hg
    obtain ⟨f0, f1, f2, f3, f4, f5⟩ := hf it (by simp)
    have hm : s.heap.DictRaw a es ep := ⟨o, xo_at I.hok hd, hx, hod⟩
    obtain ⟨hlt, ru⟩ := vals_at rv hi
    refine wpAny_pyNext_values_item_raw st hm hlt fun h' st' sb => ?_
    have I1 : Inv X pins σ H { s with heap := h' } := I.turned (t' := s.toks) (fun b ob hb e => (sb.2 b hb).trans e) f0 f1 f3 f4 f5
    obtain ⟨oi, e, c, dd⟩ := id st'
    exact ⟨_, rfl, go_of (s := { s with heap := h' }) e c dd (by decide) ⟨_, H, I1, ru, ⟨rfl, List.getElem?_eq_getElem hi⟩, st', fun b hb => (hf b hb).1⟩⟩
  done := by
    intro X hP hw hK hc i pins s σ H E I hf st hg
    subst hP hw hK
    obtain ⟨hd, hi⟩ := hg
    obtain ⟨f0, f1, f2, f3, f4, f5⟩ := hf it (by simp)
    have hm : s.heap.DictRaw a es ep := ⟨o, xo_at I.hok hd, hx, hod⟩
    have := vals_sz rv
    exact wpAny_pyNext_values_end_raw (I.ok.hd hc) st hm (by omega) fun h' eb => ⟨rfl, I.turned (t' := s.toks) (fun b ob hb e => eb b ob hb e) f0 f1 f3 f4 f5⟩
  self := fun A i s Q E st h => wpAny_pyIter_valiter st h
theorem turn_itemsX {elts : List Expr} {kk : Nat} {tpos : Pos} (it : Addr) (hod : o.data = .dict es ep) (hx : o.ExactDict) (rk : Vals ks (es.toList.map (·.key))) (rv : Vals vs (es.toList.map (·.val))) :
    Turn P w K (.Tuple elts kk tpos) (ItiX a o ks vs) [it] it (fun i h => ∃ ok ov, h.get? it = some (DVw.itmOb a .none i es.size ep ok ov)) where
  mem := by simp
  obj := fun i h st b hb => by
    have e : b = it := by simpa using hb
    subst e
    obtain ⟨ok, ov, e⟩ := st
    exact ⟨_, e, fun v z => nomatch z⟩
  keep := fun i h h' st k => let ⟨ok, ov, e⟩ := st; ⟨ok, ov, k it (by simp) _ e⟩
  item := by
    intro X hP hw hK hc i pins s σ H E I hf st hg
    subst hP hw hK
    obtain ⟨hd, hi⟩ := hg
    have ho := xo_at I.hok hd
    obtain ⟨hlt, ru⟩ := vals_at rv hi
    have hik : i < ks.length := by have := vals_sz rk; omega
    obtain ⟨_, rku⟩ := vals_at rk hik
    obtain ⟨ok, ov, hit⟩ := st
    have hlt' : it < s.heap.objs.size := Heap.lt_size hit
    refine DVw.itm_item hit ho hod rfl (Array.getElem?_eq_getElem hlt) fun h' b1 b2 b3 b4 => ?_
    refine ⟨_, rfl, wpAny_letOwnedTupleGo_items (s := { s with heap := h' }) (d := a) (i := i + 1) (n := es.size) (ep := ep) (ok := es[i].key) (ov := es[i].val) b1 fun h'' he' sb => ?_⟩
    have hT2 : h''.get? s.heap.objs.size = some { cls := .type "tuple", data := .seq #[es[i].key, es[i].val] } := (sb.2 _ (Nat.ne_of_gt hlt')).trans b2
    have new : ObjOk X.prog X.w (upd H s.heap.objs.size (.tup [ks[i], vs[i]])) h'' s.heap.objs.size (.tup [ks[i], vs[i]]) :=
      ⟨by show 2 ≤ sizeLine; decide, [es[i].key, es[i].val], .cons rku (.cons ru .nil), ⟨_, hT2, rfl, _, rfl⟩⟩
    have I1 : Inv X pins σ (upd H s.heap.objs.size (.tup [ks[i], vs[i]])) { s with heap := h'' } :=
      I.turnedNew (t' := s.toks) (ch := [it]) (fun b ob hb z => (sb.2 b (by simpa using hb)).trans (b4 b ob (by simpa using hb) z)) hf (Nat.le_refl _) new
    refine ⟨.ref s.heap.objs.size, _, I1, rfl, ⟨_, ks[i], vs[i], List.getElem?_eq_getElem hik, List.getElem?_eq_getElem hi, rfl, I.hok.fresh (Nat.le_refl _), rfl⟩, ⟨es[i].key, es[i].val, he'⟩, fun b hb => ?_⟩
    have z : b = it := by simpa using hb
    rw [z, upd_ne (Nat.ne_of_lt hlt')]
    exact (hf it (by simp)).1
  done := by
    intro X hP hw hK hc i pins s σ H E I hf st hg
    subst hP hw hK
    obtain ⟨hd, hi⟩ := hg
    obtain ⟨f0, f1, f2, f3, f4, f5⟩ := hf it (by simp)
    have ho := xo_at I.hok hd
    obtain ⟨ok, ov, hit⟩ := st
    have := vals_sz rv
    have he : es[i]? = none := Array.getElem?_eq_none (by omega)
    exact DVw.itm_end (I.ok.hd hc) hit ho hod rfl he fun h' eb => ⟨rfl, I.turned (t' := s.toks) (fun b ob hb e => eb b ob hb e) f0 f1 f3 f4 f5⟩
  self := fun A i s Q E st h => let ⟨_, _, e⟩ := st; PySem.W.kcp_self e h
end
section
variable {X : Cx} {G : Gm} {W : Wi} {Z Z' : Ow} {B A A1 A2 A0 : Nat → Option Addr} {σ σ1 : L2.St} {H H1 H2 H0 : Hp} {ρ ρ1 ρ2 : Ev} {Q : VK} {v : V} {r : RV}
/-- a dict's keys, values, pairs -/
def iDic (f : List (PyData × PyData) → List PyData) (a : EvE) : EvI := fun ρ => (a ρ).bind fun r ρ1 => (escR ρ1 r).bind fun d ρ2 => match d with
  | .dict kvs => .ok (f kvs) ρ2
  | _ => .bad
def kvKeys (kvs : List (PyData × PyData)) : List PyData := kvs.map Prod.fst
def kvVals (kvs : List (PyData × PyData)) : List PyData := kvs.map Prod.snd
def kvItems (kvs : List (PyData × PyData)) : List PyData := kvs.map fun p => .tuple [p.1, p.2]
theorem itok_dX {a : Addr} {o : Obj} {vs : List V} {ds : List PyData} (e : H a = some (XO o a)) (n : ¬ Oo Z A a) (f : FzA (Oo Z A) H vs ds) : ItOk false Z (ItdX a o vs) ds A H := fun Z' A1 H1 fz th x => by
  have e1 := x.keep a _ e fun i z => n (.inr ⟨i, z⟩)
  have f1 := x.fzA' fz f
  refine ⟨fun i hi => ⟨e1, by rw [f.len]; exact hi⟩, fun i hi => ⟨e1, by rw [f.len]; exact hi⟩, fun i y H2 hi ⟨h, g⟩ => ?_⟩
  subst h
  obtain ⟨w, h1, h2⟩ := f1.get (List.getElem?_eq_getElem hi)
  rw [g] at h1; cases h1
  exact ⟨.refl _, _, List.getElem?_eq_getElem hi, .inl h2⟩
theorem itok_iX {a : Addr} {o : Obj} {ks vs : List V} {kvs : List (PyData × PyData)} (e : H a = some (XO o a)) (n : ¬ Oo Z A a) (fk : FzA (Oo Z A) H ks (kvs.map Prod.fst)) (fv : FzA (Oo Z A) H vs (kvs.map Prod.snd)) : ItOk true Z (ItiX a o ks vs) (kvItems kvs) A H := fun Z' A1 H1 fz th x => by
  have e1 := x.keep a _ e fun i z => n (.inr ⟨i, z⟩)
  have f1 := x.fzA' fz fk
  have f2 := x.fzA' fz fv
  have l1 := fk.len
  have l2 := fv.len
  rw [List.length_map] at l1 l2
  have l3 : (kvItems kvs).length = kvs.length := by unfold kvItems; rw [List.length_map]
  refine ⟨fun i hi => ⟨e1, by omega⟩, fun i hi => ⟨e1, by omega⟩, fun i y H2 hi ⟨T, k, v, g1, g2, hy, hT, hH⟩ => ?_⟩
  subst hy; subst hH
  have hi' : i < kvs.length := by omega
  obtain ⟨w, h1, h2⟩ := f1.get (i := i) (d := kvs[i].1) (by rw [List.getElem?_map, List.getElem?_eq_getElem hi']; rfl)
  obtain ⟨w', h1', h2'⟩ := f2.get (i := i) (d := kvs[i].2) (by rw [List.getElem?_map, List.getElem?_eq_getElem hi']; rfl)
  rw [g1] at h1; cases h1
  rw [g2] at h1'; cases h1'
  refine ⟨.new hT, .tuple [kvs[i].1, kvs[i].2], ?_, pair_new hT h2 h2'⟩
  unfold kvItems
  rw [List.getElem?_map, List.getElem?_eq_getElem hi']; rfl
/-- for .. in d.values() -/
def iViewX (T : Str) (td : TE) : TI := fun σ H R => td σ H fun x H1 => ∃ a o es ep ks vs, x = V.ref a ∧ H1 a = some (XO o a) ∧ o.ExactDict ∧ o.data = .dict es ep ∧ Vals ks (es.toList.map (·.key)) ∧ Vals vs (es.toList.map (·.val)) ∧
  R (if T = "values" then ItdX a o vs else if T = "items" then ItiX a o ks vs else ItdX a o ks) H1
theorem raw_of {pins : List (Addr × Obj)} {s : Shared} {a : Addr} {o : Obj} {es : Array DictEntry} {ep : Nat} (I : Inv X pins σ H s) (hx : H a = some (XO o a)) (ex : o.ExactDict) (hd : o.data = .dict es ep) : s.heap.DictRaw a es ep ∧ (a == sysModules) = false ∧ s.TypeIs (.ref a) "dict" ∧ ∀ b, Value.ref a = .ref b → ∃ ob, s.heap.get? b = some ob ∧ ob.dict = none := by
  have h1 := xo_at I.hok hx
  exact ⟨⟨o, h1, ex, hd⟩, beq_eq_false_iff_ne.mpr (Ne.symm (Nat.ne_of_lt (xo_gt I.hok hx))), ⟨o, h1, ex.1⟩, fun b e => by cases e; exact ⟨o, h1, ex.2.1⟩⟩
theorem pi_keysX {tg e : Expr} {td : TE} (he : PE X e td) : PI X tg e (iViewX "" td) := by
  refine ⟨fun pins s σ H R I h => thn (he.run pins s σ H _ I h) fun u s1 ⟨x, H1, I1, rx, a, o, es, ep, ks, vs, ex, hx, hE, hd, rk, rv, q⟩ => ?_⟩
  subst ex
  obtain rfl : u = Value.ref a := rx
  obtain ⟨hm, hs, _, _⟩ := raw_of I1 hx hE hd
  exact wpAny_pyIter_dict_raw hs hm (pi_one (tk := s1.toks) I1 _ (turn_keysX _ hd hE rk) ⟨_, Heap.get?_push_size _ rfl, rfl, rfl⟩ q)
theorem pi_valuesX {tg e : Expr} {td : TE} {apos cpos : Pos} (he : PE X e td) (hbase : attributeBase e "values" X.env (eval e X.env) = eval e X.env := by rfl) (hline : (apos.endLine == cpos.line) = true := by rfl) : PI X tg (.Call (.Attribute e "values" apos) [] [] cpos) (iViewX "values" td) := by
  refine ⟨fun pins s σ H R I h => ?_⟩
  refine wpAny_Call_method (T := "dict") (id := "dict.values") hbase rfl hline PySem.F.plainAttrs_dict PySem.F.slot_dict_values PySem.F.type_dict_values (thn (he.run pins s σ H _ I h) fun u s1 ⟨x, H1, I1, rx, a, o, es, ep, ks, vs, ex, hx, hE, hd, rk, rv, q⟩ => ?_)
  subst ex
  obtain rfl : u = Value.ref a := rx
  obtain ⟨hm, hs, t1, t2⟩ := raw_of I1 hx hE hd
  refine ⟨t1, t2, ?_⟩
  have I2 : Inv X pins σ H1 { s1 with heap := s1.heap.push { cls := .type "dict_values", data := .fields #[.ref a] } } := I1.kept (t' := s1.toks) fun b ob q => Heap.get?_push_of_some _ q
  have fin : wpAny (model X.prog X.w) X.A (pyIter (.ref s1.heap.objs.size)) (PIE X pins σ tg R) X.xe { s1 with heap := s1.heap.push { cls := .type "dict_values", data := .fields #[.ref a] } } :=
    wpAny_pyIter_values_raw (d := a) ⟨_, Heap.get?_push_size _ rfl, rfl, rfl⟩ (hm.at fun ob e => Heap.get?_push_of_some _ e) (pi_one (tk := s1.toks) I2 _ (turn_valsX _ hd hE rv) ⟨_, Heap.get?_push_size _ rfl, rfl, rfl⟩ q)
  show wpAny _ _ (callWith cpos (.builtin "dict.values") [.ref a] [] []) _ X.xe s1
  exact method_meetsIn PySem.F.slot_dict_values PySem.F.entry_dict_values rfl (PySem.evalArgs_none ⟨rfl, t1, PySem.F.args_dict_values_1 _, _, meets_dict_values_raw a hs, ⟨es, ep, hm⟩, fin⟩)
theorem pi_itemsX {elts : List Expr} {kk : Nat} {tpos : Pos} {e : Expr} {td : TE} {apos cpos : Pos} (he : PE X e td) (hbase : attributeBase e "items" X.env (eval e X.env) = eval e X.env := by rfl) (hline : (apos.endLine == cpos.line) = true := by rfl) : PI X (.Tuple elts kk tpos) (.Call (.Attribute e "items" apos) [] [] cpos) (iViewX "items" td) := by
  refine ⟨fun pins s σ H R I h => ?_⟩
  refine wpAny_Call_method (T := "dict") (id := "dict.items") hbase rfl hline PySem.F.plainAttrs_dict PySem.F.slot_dict_items PySem.F.type_dict_items (thn (he.run pins s σ H _ I h) fun u s1 ⟨x, H1, I1, rx, a, o, es, ep, ks, vs, ex, hx, hE, hd, rk, rv, q⟩ => ?_)
  subst ex
  obtain rfl : u = Value.ref a := rx
  obtain ⟨hm, hs, t1, t2⟩ := raw_of I1 hx hE hd
  refine ⟨t1, t2, ?_⟩
  have I2 : Inv X pins σ H1 { s1 with heap := s1.heap.push { cls := .type "dict_items", data := .fields #[.ref a] } } := I1.kept (t' := s1.toks) fun b ob q => Heap.get?_push_of_some _ q
  have fin : wpAny (model X.prog X.w) X.A (pyIter (.ref s1.heap.objs.size)) (PIE X pins σ (.Tuple elts kk tpos) R) X.xe { s1 with heap := s1.heap.push { cls := .type "dict_items", data := .fields #[.ref a] } } :=
    wpAny_pyIter_items_raw (d := a) ⟨_, Heap.get?_push_size _ rfl, rfl, rfl⟩ (hm.at fun ob e => Heap.get?_push_of_some _ e) (pi_one (tk := s1.toks) I2 _ (turn_itemsX _ hd hE rk rv) ⟨.none, .none, Heap.get?_push_size _ rfl⟩ q)
  show wpAny _ _ (callWith cpos (.builtin "dict.items") [.ref a] [] []) _ X.xe s1
  exact method_meetsIn PySem.F.slot_dict_items PySem.F.entry_dict_items rfl (PySem.evalArgs_none ⟨rfl, t1, PySem.F.args_dict_items_1 _, _, meets_dict_items_raw a hs, ⟨es, ep, hm⟩, fin⟩)
theorem dic_run {U : Bool} {f : List (PyData × PyData) → List PyData} {T : Str} {ea : EvE} {R : It → Hp → Prop}
    (hR : ∀ {A : Nat → Option Addr} {H : Hp} {Z : Ow} {a : Addr} {o : Obj} {ks vs : List V} {kvs : List (PyData × PyData)}, H a = some (XO o a) → ¬ Oo Z A a → FzA (Oo Z A) H ks (kvs.map Prod.fst) → FzA (Oo Z A) H vs (kvs.map Prod.snd) → ItOk U Z (if T = "values" then ItdX a o vs else if T = "items" then ItiX a o ks vs else ItdX a o ks) (f kvs) A H)
    (h : dI G W U (iDic f ea) σ H R) : iViewX T (dE G W ea) σ H R := by
  obtain ⟨Z, B, ρ, A, R0, d⟩ := h
  unfold iDic at d
  refine dE_bind shift_I R0 d fun r ρ1 v H1 A1 R1 x1 f1 d1 => ?_
  cases q : escR ρ1 r with
  | bad => rw [q] at d1; exact d1.elim
  | exc y ρ2 => exact absurd q escR_ne
  | ok c ρ2 =>
    rw [q] at d1
    obtain ⟨A2, R2, x2, f2⟩ := esc_ok R1 f1 q
    cases c with
    | dict kvs =>
      cases f2 with
      | @dic a o ks vs _ e n dd fk fv =>
        obtain ⟨es, ep, ex, hd, hz, r1, r2, _, _⟩ := dd
        exact ⟨a, o, es, ep, ks, vs, rfl, e, ex, hd, r1, r2, d1 _ H1 A2 R2 x2 (hR e n fk fv)⟩
    | none => exact d1.elim
    | bool _ => exact d1.elim
    | int _ => exact d1.elim
    | str _ => exact d1.elim
    | list _ => exact d1.elim
    | tuple _ => exact d1.elim
theorem PI_imp {tg e : Expr} {t t' : TI} (h : PI X tg e t) (i : ∀ σ H R, t' σ H R → t σ H R) : PI X tg e t' := ⟨fun pins s σ H R I q => h.run pins s σ H R I (i σ H R q)⟩
theorem di_keysX {tg e : Expr} {ea : EvE} (he : DE X G W e ea) : DI X G W false tg e (iDic kvKeys ea) :=
  ⟨PI_imp (pi_keysX he.pe) fun σ H R h => dic_run (T := "") (fun e n fk fv => by rw [if_neg (by decide), if_neg (by decide)]; exact itok_dX e n fk) h⟩
theorem di_valuesX {tg e : Expr} {ea : EvE} {apos cpos : Pos} (he : DE X G W e ea) (hbase : attributeBase e "values" X.env (eval e X.env) = eval e X.env := by rfl) (hline : (apos.endLine == cpos.line) = true := by rfl) : DI X G W false tg (.Call (.Attribute e "values" apos) [] [] cpos) (iDic kvVals ea) :=
  ⟨PI_imp (pi_valuesX he.pe hbase hline) fun σ H R h => dic_run (T := "values") (fun e n fk fv => by rw [if_pos rfl]; exact itok_dX e n fv) h⟩
theorem di_itemsX {elts : List Expr} {kk : Nat} {tpos : Pos} {e : Expr} {ea : EvE} {apos cpos : Pos} (he : DE X G W e ea) (hbase : attributeBase e "items" X.env (eval e X.env) = eval e X.env := by rfl) (hline : (apos.endLine == cpos.line) = true := by rfl) : DI X G W true (.Tuple elts kk tpos) (.Call (.Attribute e "items" apos) [] [] cpos) (iDic kvItems ea) :=
  ⟨PI_imp (pi_itemsX he.pe hbase hline) fun σ H R h => dic_run (T := "items") (fun e n fk fv => by rw [if_neg (by decide), if_pos rfl]; exact itok_iX e n fk fv) h⟩
end
theorem iDic_ {f : List (PyData × PyData) → List PyData} {a : EvE} {ρ : Ev} : iDic f a ρ = (a ρ).bind fun r ρ1 => (escR ρ1 r).bind fun d ρ2 => match d with
  | .dict kvs => .ok (f kvs) ρ2
  | _ => .bad := rfl
def asD : PyData → Option (List (PyData × PyData))
  | .dict kvs => some kvs
  | _ => none
theorem asD_ {kvs : List (PyData × PyData)} : asD (.dict kvs) = some kvs := rfl
theorem wp_Dic {f : List (PyData × PyData) → List PyData} {a : EvE} {ρ : Ev} {Q : List PyData → Ev → Prop} {v : U Q} : Wp (iDic f a ρ) Q v = Wp (a ρ) (fun r ρ1 => Wp (escR ρ1 r) (fun d ρ2 => oW (asD d) (fun kvs => Q (f kvs) ρ2) ⟨⟩) ⟨⟩) ⟨⟩ := by
  refine wp_bind.trans ?_
  refine wp_cg fun r ρ1 => ?_
  refine wp_bind.trans ?_
  refine wp_cg fun d ρ2 => ?_
  cases d with
  | dict kvs => rw [asD_, oW_some]; exact wp_ok
  | _ => exact wp_bad.trans oW_none.symm
end DL

/-! DL33: sorted(..) of any alike data: lists, a dict's keys, d.items() -/
namespace DL
open PySem PySem.Spec PyProof.Rows L2
def tupNE : PyData → Bool
  | .tuple (_ :: _) => true
  | _ => false
def notTN : PyData → Bool
  | .tuple _ => false
  | .none => false
  | _ => true
def okSrt (ds : List PyData) : Bool := (ds.all fun d => ds.all fun e => PySem.W.alike d e) && ((ds.all tupNE || ds.all notTN) && ds.all fun d => decide (d.depth ≤ 32))
def srtD (ds : List PyData) : List PyData := ds.mergeSort fun a b => !PySem.W.dataLt b a
mutual
theorem alike_nd : ∀ d : PyData, PySem.W.alike d d = true → d.hasDict = false
  | .none, _ => rfl
  | .bool _, _ => rfl
  | .int _, _ => rfl
  | .str _, _ => rfl
  | .list ds, h => by
    simp only [PyData.hasDict]
    exact alike_ndA ds (by simpa [PySem.W.alike] using h)
  | .tuple ds, h => by
    simp only [PyData.hasDict]
    exact alike_ndA ds (by simpa [PySem.W.alike] using h)
  | .dict _, h => by simp [PySem.W.alike] at h
theorem alike_ndA : ∀ ds : List PyData, PySem.W.alikeAll ds ds = true → PyData.hasDictAll ds = false
  | [], _ => rfl
  | d :: ds, h => by
    have h' := PySem.W.alike_all_cons h
    simp only [PyData.hasDictAll, alike_nd d h'.1, alike_ndA ds h'.2, Bool.or_self]
end
theorem okSrt_alike {ds : List PyData} (h : okSrt ds = true) : PySem.W.AllAlike ds := by
  unfold okSrt at h
  rw [Bool.and_eq_true, List.all_eq_true] at h
  exact fun d hd e he => List.all_eq_true.mp (h.1 d hd) e he
theorem okSrt_sort {ds : List PyData} (h : okSrt ds = true) : PySem.W.Sortable ds := by
  unfold okSrt at h
  rw [Bool.and_eq_true, Bool.and_eq_true, Bool.or_eq_true, List.all_eq_true, List.all_eq_true, List.all_eq_true] at h
  rcases h.2.1 with h | h
  · refine .inl fun d hd => ?_
    have := h d hd
    cases d with
    | tuple l =>
      cases l with
      | nil => cases this
      | cons x r => exact ⟨x, r, rfl⟩
    | _ => cases this
  · refine .inr fun d hd => ?_
    have := h d hd
    cases d with
    | tuple l => cases this
    | none => cases this
    | _ => exact ⟨(by intro z; cases z), fun xs z => by cases z⟩
theorem okSrt_depth {ds : List PyData} (h : okSrt ds = true) : ∀ d ∈ ds, d.depth ≤ 32 := by
  unfold okSrt at h
  rw [Bool.and_eq_true, Bool.and_eq_true, List.all_eq_true, List.all_eq_true] at h
  exact fun d hd => of_decide_eq_true (h.2.2 d hd)
/-- what is sorted: a value's name and its datum -/
abbrev SrtR (O : Ow) (H : Hp) (u : Value) (b : V × PyData) : Prop := RelV b.1 u ∧ Fz O H b.1 b.2
theorem each_zip {O : Ow} {H : Hp} : ∀ {ys : List V} {us : List Value} {ds : List PyData}, Vals ys us → FzA O H ys ds → PySem.W.EachIs (SrtR O H) us (ys.zip ds)
  | [], _, _, r, f => by cases r; cases f; exact .nil
  | y :: ys, _, _, r, f => by
    cases r with
    | cons r1 r2 =>
      cases f with
      | cons f1 f2 => exact .cons ⟨r1, f1⟩ (each_zip r2 f2)
theorem each_out {O : Ow} {H : Hp} : ∀ {us : List Value} {bs : List (V × PyData)}, PySem.W.EachIs (SrtR O H) us bs → Vals (bs.map Prod.fst) us ∧ FzA O H (bs.map Prod.fst) (bs.map Prod.snd)
  | _, _, .nil => ⟨.nil, .nil⟩
  | _, _, .cons h t => ⟨.cons h.1 (each_out t).1, .cons h.2 (each_out t).2⟩
theorem zip_snd {ys : List V} {ds : List PyData} (h : ys.length = ds.length) : (ys.zip ds).map Prod.snd = ds := List.map_snd_zip (by omega)
theorem srt_snd (bs : List (V × PyData)) : (bs.mergeSort (PySem.W.dataLe false Prod.snd)).map Prod.snd = srtD (bs.map Prod.snd) := by
  unfold srtD
  exact List.map_mergeSort fun a _ b _ => rfl
mutual
theorem reads_there {h : Heap} : ∀ {v : Value} {d : PyData} {as : List Addr}, Reads h v d as → ∀ a ∈ as, ∃ o, h.get? a = some o
  | _, _, _, .none, _, z => nomatch z
  | _, _, _, .bool _, _, z => nomatch z
  | _, _, _, .int _ _, _, z => nomatch z
  | _, _, _, .str _ _, _, z => nomatch z
  | _, _, _, .list e _ _ r, a, z => by
    rcases List.mem_cons.mp z with rfl | z
    · exact ⟨_, e⟩
    · exact readsAll_there r a z
  | _, _, _, .tuple _ _ _ r, a, z => readsAll_there r a z
  | _, _, _, .dict e _ _ r1 r2, a, z => by
    rcases List.mem_append.mp z with z | z
    · rcases List.mem_cons.mp z with rfl | z
      · exact ⟨_, e⟩
      · exact readsAll_there r1 a z
    · exact readsAll_there r2 a z
theorem readsAll_there {h : Heap} : ∀ {vs : List Value} {ds : List PyData} {as : List Addr}, ReadsAll h vs ds as → ∀ a ∈ as, ∃ o, h.get? a = some o
  | _, _, _, .nil, _, z => nomatch z
  | _, _, _, .cons r1 r2, a, z => by
    rcases List.mem_append.mp z with z | z
    · exact reads_there r1 a z
    · exact readsAll_there r2 a z
end
section
variable {X : Cx} {pins : List (Addr × Obj)} {σ : L2.St} {H : Hp} {s : Shared} {O : Ow}
theorem fz_rd (I : Inv X pins σ H s) {v : V} {d : PyData} {u : Value} (hd : d.hasDict = false) (f : Fz O H v d) (r : RelV v u) : ∃ as, Reads s.heap u d as := by
  have := Dp.readsAll I [d] [v] [u] (.cons (f.dp (K := X.K) hd) .nil) (.cons r .nil)
  obtain ⟨as, h⟩ := this
  cases h with
  | cons h _ => exact ⟨_, h⟩
theorem each_rd (I : Inv X pins σ H s) : ∀ {us : List Value} {bs : List (V × PyData)}, PySem.W.EachIs (SrtR O H) us bs → (∀ b ∈ bs, b.2.hasDict = false) → PySem.W.EachIs (fun u b => ∃ as, Reads s.heap u b.2 as) us bs
  | _, _, .nil, _ => .nil
  | _, _, .cons h t, hd => .cons (fz_rd I (hd _ (List.mem_cons_self ..)) h.2 h.1) (each_rd I t fun b hb => hd b (List.mem_cons_of_mem _ hb))
/-- the parts that the sort's rule asks for -/
theorem srt_pre (I : Inv X pins σ H s) {ys : List V} {us : List Value} {ds : List PyData} (r : Vals ys us) (f : FzA O H ys ds) (ok : okSrt ds = true) (hu : X.A.units + 66 < cLine) :
    PySem.W.EachIs (SrtR O H) us (ys.zip ds) ∧ PySem.W.EachIs (fun u b => ∃ as, Reads s.heap u b.2 as) us (ys.zip ds) ∧ (ys.zip ds).map Prod.snd = ds ∧ (ys.zip ds).length = ds.length ∧ ∀ b, b ∈ ys.zip ds → X.A.units + 3 + b.2.depth < cLine := by
  have hl := f.len
  have e := each_zip r f
  have hm : ∀ b ∈ ys.zip ds, b.2 ∈ ds := fun b hb => (List.of_mem_zip (a := b.1) (b := b.2) hb).2
  refine ⟨e, each_rd I e fun b hb => ?_, zip_snd hl, by rw [List.length_zip]; omega, fun b hb => ?_⟩
  · exact alike_nd _ (okSrt_alike ok _ (hm b hb) _ (hm b hb))
  · have := okSrt_depth ok _ (hm b hb); omega
theorem srt_post {us : List Value} {bs : List (V × PyData)} {ds : List PyData} (e : PySem.W.EachIs (SrtR O H) us (bs.mergeSort (PySem.W.dataLe false Prod.snd))) (hs : bs.map Prod.snd = ds) :
    ∃ zs, Vals zs us ∧ FzA O H zs (srtD ds) := by
  obtain ⟨h1, h2⟩ := each_out e
  rw [srt_snd, hs] at h2
  exact ⟨_, h1, h2⟩
def rSrtL (K : PySem.W.Frag) : List V → Hp → VK → Prop := fun vs H Q => ∃ (p : Addr) (ys : List V) (ds : List PyData) (O : Ow), vs = [V.ref p] ∧ SqL K H p ys ∧ FzA O H ys ds ∧ okSrt ds = true ∧
  ∀ q zs, H q = none → FzA O H zs (srtD ds) → Q (.ref q) (upd H q (.lst zs))
theorem srtD_len (ds : List PyData) : (srtD ds).length = ds.length := List.length_mergeSort ds
theorem cr_srtL (hu : X.A.units + 66 < cLine) : CallR X (.builtin "sorted") (rSrtL X.K) := by
  intro pins s σ H vs us Q I r h
  obtain ⟨p, ys, ds, O, rfl, hs, f, ok, q⟩ := h
  rw [Vals.ref1 r]
  obtain ⟨its, rv, pl, hz⟩ := I.list hs
  obtain ⟨e1, e2, e3, e4, e5⟩ := srt_pre I rv f ok hu
  have hal : PySem.W.AllAlike ((ys.zip ds).map Prod.snd) := by rw [e3]; exact okSrt_alike ok
  have hk : PySem.W.Sortable ((ys.zip ds).map Prod.snd) := by rw [e3]; exact okSrt_sort ok
  have hl := f.len
  refine PySem.W.sorted_data pl.isList e1 e2 hal hk (by rw [e4]; omega) (fun b hb => by have := e5 b hb; omega) fun out ho eo => ?_
  obtain ⟨zs, z1, z2⟩ := srt_post eo e3
  obtain ⟨c, hc⟩ := PyProof.Rows.sortedAll_at s.heap its out.toArray
  have hzl : zs.length ≤ sizeLine := by rw [z2.len, srtD_len]; omega
  exact ⟨.ref (s.heap.objs.size + 1), upd H (s.heap.objs.size + 1) (.lst zs), I.laid (t' := s.toks) (fun _ _ => PyProof.Rows.sortedAll_old) (Nat.le_succ _) ⟨hzl, out, c, z1, by simpa using hc⟩, rfl, q _ zs (I.hok.fresh (Nat.le_succ _)) z2⟩
/-- the sort of a list just laid -/
theorem sort_laid {h' : Heap} {tk : Nat} {us : List Value} {bs : List (V × PyData)} {ds : List PyData} {Q : VK} (I : Inv X pins σ H s) (k : ∀ b o, s.heap.get? b = some o → h'.get? b = some o)
    (e1 : PySem.W.EachIs (SrtR O H) us bs) (e2 : PySem.W.EachIs (fun u b => ∃ as, Reads h' u b.2 as) us bs) (e3 : bs.map Prod.snd = ds) (ok : okSrt ds = true) (hz : ds.length ≤ sizeLine) (hu : X.A.units + 66 < cLine)
    (q : ∀ p zs, H p = none → FzA O H zs (srtD ds) → Q (.ref p) (upd H p (.lst zs))) :
    wpAny (model X.prog X.w) X.A.in1 (call (.builtin "list.sort") [.ref h'.objs.size]) (fun _ s' => EP X pins σ Q (.ref h'.objs.size) s') X.xe { s with heap := h'.push { cls := .type "list", data := .seq us.toArray }, toks := tk } := by
  have hal : PySem.W.AllAlike (bs.map Prod.snd) := by rw [e3]; exact okSrt_alike ok
  have hk : PySem.W.Sortable (bs.map Prod.snd) := by rw [e3]; exact okSrt_sort ok
  have hb : bs.length = ds.length := by rw [← e3, List.length_map]
  have at_ : (h'.push { cls := .type "list", data := .seq us.toArray }).get? h'.objs.size = some (seqObj "list" us.toArray 0) := Heap.get?_push_size _ rfl
  have er : PySem.W.EachIs (fun u b => ∃ as, Reads (h'.push { cls := .type "list", data := .seq us.toArray }) u b.2 as ∧ h'.objs.size ∉ as) us bs := e2.mono fun u b ⟨as, hr⟩ => ⟨as, PyProof.Rows.Reads.keeps (fun _ _ e => Heap.get?_push_of_some _ e) hr, fun z => by
    obtain ⟨o, e⟩ := reads_there hr _ z
    exact absurd (Heap.lt_size e) (Nat.lt_irrefl _)⟩
  refine PySem.W.list_sort_data (s := { s with heap := h'.push { cls := .type "list", data := .seq us.toArray }, toks := tk }) at_ e1 er hal hk (by rw [hb]; exact hz) (fun b hb => ?_) fun out ho eo => ?_
  · have := okSrt_depth ok b.2 (by rw [← e3]; exact List.mem_map.mpr ⟨b, hb, rfl⟩)
    show X.A.in1.units + 1 + _ < _
    rw [Around.in1_units]; omega
  · obtain ⟨zs, z1, z2⟩ := srt_post eo e3
    obtain ⟨c, hc⟩ := PyProof.Rows.sortedHeap_at (vs := us) (out := out.toArray) at_
    have hzl : zs.length ≤ sizeLine := by rw [z2.len, srtD_len]; exact hz
    have I1 : Inv X pins σ H { s with heap := h' } := I.kept (t' := s.toks) k
    refine ⟨.ref h'.objs.size, upd H h'.objs.size (.lst zs), I1.laid (t' := tk) (fun b o e => ?_) (Nat.le_refl _) ⟨hzl, out, c, z1, by simpa using hc⟩, rfl, q _ zs (I1.hok.fresh (Nat.le_refl _)) z2⟩
    have hne : b ≠ h'.objs.size := Nat.ne_of_lt (Heap.lt_size e)
    rw [PyProof.Rows.sortedHeap_old hne (Heap.lt_size (Heap.get?_push_of_some _ e))]
    exact Heap.get?_push_of_some _ e
end
end DL

/-! DL34: sum, min, max, list, sorted of a dict's keys, of d.values(), d.items() -/
namespace DL
open PySem PySem.Spec PyProof.Rows L2
section
variable {X : Cx} {pins : List (Addr × Obj)} {σ : L2.St} {H : Hp} {s : Shared} {O : Ow}
/-- a dict walked by keys, or the view of its values -/
def SrcD (O : Ow) (H : Hp) (x : V) (ds : List PyData) : Prop := (∃ a kvs, x = V.ref a ∧ Ob O H a (.dict kvs) ∧ ds = kvKeys kvs) ∨ ∃ p a kvs, x = V.ref p ∧ H p = some (viewO "dict_values" p a) ∧ Ob O H a (.dict kvs) ∧ ds = kvVals kvs
theorem view_at {p a : Addr} {T : String} (I : Inv X pins σ H s) (h : H p = some (viewO T p a)) : s.heap.get? p = some (DSub.viewOb T a) := (show ObjOk X.prog X.w H s.heap p (viewO T p a) from I.hok p _ h).1
theorem srcD_walk (I : Inv X pins σ H s) {x : V} {u : Value} {ds : List PyData} (h : SrcD O H x ds) (rx : RelV x u) : ∃ T r d n P OK vs, u = Value.ref r ∧ PySem.W.KdlSrc X.prog X.w T r d n P OK ∧ OK s.heap ∧ n = vs.length ∧ n ≤ sizeLine ∧ FzA O H vs ds ∧ ∀ i v, P i v → ∃ y, vs[i]? = some y ∧ RelV y v := by
  rcases h with ⟨a, kvs, rfl, ho, rfl⟩ | ⟨p, a, kvs, rfl, hp, ho, rfl⟩
  · cases rx
    obtain ⟨o, es, ep, ks, vs, _, _, _, hm, hz, _, hns, rk, _, fk, _⟩ := ob_raw I ho
    refine ⟨"dict", a, a, es.size, _, _, ks, rfl, KdlSrc.rawDict (es := es) (ep := ep) hns, hm, (vals_sz rk).symm, hz, fk, fun i v ⟨hi, e⟩ => ?_⟩
    have hl := vals_sz rk
    obtain ⟨_, r⟩ := vals_at rk (show i < ks.length by omega)
    exact ⟨_, List.getElem?_eq_getElem (by omega), by rw [e]; exact r⟩
  · cases rx
    obtain ⟨o, es, ep, ks, vs, _, _, _, hm, hz, _, hns, _, rv, _, fv⟩ := ob_raw I ho
    refine ⟨"dict_values", p, a, es.size, _, _, vs, rfl, KdlSrc.rawValues (es := es) (ep := ep), ⟨⟨_, view_at I hp, rfl, rfl⟩, hm⟩, (vals_sz rv).symm, hz, fv, fun i v ⟨hi, e⟩ => ?_⟩
    have hl := vals_sz rv
    obtain ⟨_, r⟩ := vals_at rv (show i < vs.length by omega)
    exact ⟨_, List.getElem?_eq_getElem (by omega), by rw [e]; exact r⟩
theorem src_int {vs : List V} {ns : List Int} {P : Nat → Value → Prop} (e : vs = ns.map V.int) (h : ∀ i v, P i v → ∃ y, vs[i]? = some y ∧ RelV y v) : ∀ i v, P i v → i < ns.length ∧ ∃ t, v = Value.int (ns.getD i 0) t := fun i v hp => by
  obtain ⟨y, h1, h2⟩ := h i v hp
  subst e
  rw [List.getElem?_map] at h1
  obtain ⟨j, h3, rfl⟩ := Option.map_eq_some_iff.mp h1
  obtain ⟨t, e⟩ := h2
  exact ⟨(List.getElem?_eq_some_iff.mp h3).1, t, by rw [e, List.getD_eq_getElem?_getD, h3]; rfl⟩
theorem fz_ints_eq {ns : List Int} {vs : List V} (f : FzA O H vs (iL ns)) : vs = ns.map V.int := ints_fz (intsIn_iL ns) f
theorem walk_fp {T : String} {r d : Addr} {n : Nat} {P : Nat → Value → Prop} {OK : Heap → Prop} {oI : Obj} (K : PySem.W.KdlSrc X.prog X.w T r d n P OK) (hok : OK s.heap) : ∀ b ∈ [s.heap.objs.size, d], b < (s.heap.push oI).objs.size := fun b hb => by
  rw [Heap.size_push]
  rcases List.mem_cons.mp hb with e | hb
  · rw [e]; exact Nat.lt_succ_self _
  · rw [List.mem_singleton.mp hb]; exact Nat.lt_succ_of_lt (K.there _ hok).2
theorem walk_kept {h' : Heap} {oI : Obj} (hk : ∀ b o, b ∉ [s.heap.objs.size] → (s.heap.push oI).get? b = some o → h'.get? b = some o) : ∀ b o, s.heap.get? b = some o → h'.get? b = some o := fun b o e =>
  hk b o (fun hI => absurd (Heap.lt_size e) (by rw [List.mem_singleton.mp hI]; exact Nat.lt_irrefl _)) (Heap.get?_push_of_some _ e)
def rSumS : List V → Hp → VK → Prop := fun xs H Q => ∃ O x ns, xs = [x] ∧ SrcD O H x (iL ns) ∧ Q (.int ns.sum) H
theorem cr_sumS (hc : X.calm = true) : CallR X (.builtin "sum") rSumS := by
  intro pins s σ H xs us Q I rx h
  obtain ⟨O, x, ns, rfl, hs, q⟩ := h
  obtain ⟨u, rfl, ru⟩ := vals1 rx
  obtain ⟨T, r, d, n, P, OK, vs, rfl, K, hok, hn, _, f, hP⟩ := srcD_walk I hs ru
  have e := fz_ints_eq f
  have hv := src_int e hP
  have hl : n = ns.length := by rw [hn, e, List.length_map]
  refine call_sum_walkAnyS ?_
  obtain ⟨oI, St, hit, W, st⟩ := K.iter X.A.in1 s (I.ok.hd hc) hok
  refine hit _ _ ⟨s.heap.objs.size, _, _, _, n, P, _, fun i => ns.getD i 0, rfl, W.toS, st, walk_fp K hok, fun i v hp => (hv i v hp).2, fun s' t' hm => ?_⟩
  have hk : ∀ b o, s.heap.get? b = some o → s'.heap.get? b = some o := fun b o e =>
    hm.heap b o (fun hI => absurd (Heap.lt_size e) (by rw [List.mem_singleton.mp hI]; exact Nat.lt_irrefl _)) (Heap.get?_push_of_some _ e)
  rw [Moved.eq_with hm, preSum_getD, hl, List.take_length]
  exact ⟨.int _, H, I.kept (t' := s'.toks) hk, ⟨t', rfl⟩, q⟩
def rMinS : List V → Hp → VK → Prop := fun xs H Q => ∃ O x ns, xs = [x] ∧ SrcD O H x (iL ns) ∧ ns ≠ [] ∧ ∀ m, m ∈ ns → (∀ j ∈ ns, m ≤ j) → Q (.int m) H
def rMaxS : List V → Hp → VK → Prop := fun xs H Q => ∃ O x ns, xs = [x] ∧ SrcD O H x (iL ns) ∧ ns ≠ [] ∧ ∀ m, m ∈ ns → (∀ j ∈ ns, j ≤ m) → Q (.int m) H
theorem getD_mem_of {ns : List Int} {j : Int} (h : j ∈ ns) : ∃ i, i < ns.length ∧ ns.getD i 0 = j := by
  obtain ⟨i, hi, e⟩ := List.mem_iff_getElem.mp h
  exact ⟨i, hi, by rw [List.getD_eq_getElem?_getD, List.getElem?_eq_getElem hi]; exact e⟩
theorem cr_minS (hc : X.calm = true) : CallR X (.builtin "min") rMinS := by
  intro pins s σ H xs us Q I rx h
  obtain ⟨O, x, ns, rfl, hs, hne, q⟩ := h
  obtain ⟨u, rfl, ru⟩ := vals1 rx
  obtain ⟨T, r, d, n, P, OK, vs, rfl, K, hok, hn, _, f, hP⟩ := srcD_walk I hs ru
  have e := fz_ints_eq f
  have hv := src_int e hP
  have hl : n = ns.length := by rw [hn, e, List.length_map]
  have hp := List.length_pos_iff.mpr hne
  refine call_min_walk ?_
  obtain ⟨oI, St, hit, W, st⟩ := K.iter X.A.in1 s (I.ok.hd hc) hok
  refine hit _ _ ⟨s.heap.objs.size, _, _, n, P, St, _, rfl, W, st, walk_fp K hok, by omega, CmpOf.ints_lt (fun i => ns.getD i 0) fun i v hp => (hv i v hp).2, fun v h' tk hP' hk => ?_⟩
  obtain ⟨_, t, rfl⟩ := hv _ v hP'
  obtain ⟨b1, b2⟩ := argBest_lt (fun i => ns.getD i 0) (n - 1)
  refine ⟨.int _, H, I.kept (t' := tk) (walk_kept hk), ⟨t, rfl⟩, q _ (PySem.getD_mem (Nat.lt_of_le_of_lt b1 (by omega))) fun j hj => ?_⟩
  obtain ⟨i, hi, rfl⟩ := getD_mem_of hj
  exact b2 i (by omega)
theorem cr_maxS (hc : X.calm = true) : CallR X (.builtin "max") rMaxS := by
  intro pins s σ H xs us Q I rx h
  obtain ⟨O, x, ns, rfl, hs, hne, q⟩ := h
  obtain ⟨u, rfl, ru⟩ := vals1 rx
  obtain ⟨T, r, d, n, P, OK, vs, rfl, K, hok, hn, _, f, hP⟩ := srcD_walk I hs ru
  have e := fz_ints_eq f
  have hv := src_int e hP
  have hl : n = ns.length := by rw [hn, e, List.length_map]
  have hp := List.length_pos_iff.mpr hne
  refine call_max_walk ?_
  obtain ⟨oI, St, hit, W, st⟩ := K.iter X.A.in1 s (I.ok.hd hc) hok
  refine hit _ _ ⟨s.heap.objs.size, _, _, n, P, St, _, rfl, W, st, walk_fp K hok, by omega, CmpOf.ints_gt (fun i => ns.getD i 0) fun i v hp => (hv i v hp).2, fun v h' tk hP' hk => ?_⟩
  obtain ⟨_, t, rfl⟩ := hv _ v hP'
  obtain ⟨b1, b2⟩ := argBest_gt (fun i => ns.getD i 0) (n - 1)
  refine ⟨.int _, H, I.kept (t' := tk) (walk_kept hk), ⟨t, rfl⟩, q _ (PySem.getD_mem (Nat.lt_of_le_of_lt b1 (by omega))) fun j hj => ?_⟩
  obtain ⟨i, hi, rfl⟩ := getD_mem_of hj
  exact b2 i (by omega)
/-- what was gathered -/
theorem items_vals {P : Nat → Value → Prop} {vs : List V} {acc : Array Value} (h : ItemsOf P acc vs.length) (hP : ∀ i v, P i v → ∃ y, vs[i]? = some y ∧ RelV y v) : Vals vs acc.toList := by
  have key : ∀ (vs : List V) (us : List Value), vs.length = us.length → (∀ (i : Nat) (y : V) (u : Value), vs[i]? = some y → us[i]? = some u → RelV y u) → Vals vs us := by
    intro vs
    induction vs with
    | nil => intro us hl _; cases us with
      | nil => exact .nil
      | cons _ _ => simp at hl
    | cons v vs ih =>
      intro us hl hr
      cases us with
      | nil => simp at hl
      | cons u us => exact .cons (hr 0 v u rfl rfl) (ih us (by simpa using hl) fun i y w h1 h2 => hr (i + 1) y w (by simpa using h1) (by simpa using h2))
  refine key _ _ (by rw [Array.length_toList]; exact h.1.symm) fun i y u h1 h2 => ?_
  have hi : i < vs.length := (List.getElem?_eq_some_iff.mp h1).1
  rw [Array.getElem?_toList] at h2
  obtain ⟨y', g1, g2⟩ := hP i u (h.2 i u h2)
  rw [h1] at g1; cases g1
  exact g2
def rListS : List V → Hp → VK → Prop := fun xs H Q => ∃ O x ds, xs = [x] ∧ SrcD O H x ds ∧ ∀ p zs, H p = none → FzA O H zs ds → Q (.ref p) (upd H p (.lst zs))
theorem cr_listS (hc : X.calm = true) : CallR X (.type "list") rListS := by
  intro pins s σ H xs us Q I rx h
  obtain ⟨O, x, ds, rfl, hs, q⟩ := h
  obtain ⟨u, rfl, ru⟩ := vals1 rx
  obtain ⟨T, r, d, n, P, OK, vs, rfl, K, hok, hn, hz, f, hP⟩ := srcD_walk I hs ru
  subst hn
  refine PySem.W.kdl_call K (I.ok.hd hc) hok hz fun h' tk acc' c' hk hS hi => ?_
  exact ⟨.ref s.heap.objs.size, upd H s.heap.objs.size (.lst vs), I.laid (t' := tk) hk (Nat.le_refl _) ⟨hz, acc'.toList, c', items_vals hi hP, by simpa using hS⟩, rfl, q _ vs (I.hok.fresh (Nat.le_refl _)) f⟩
def rSortS : List V → Hp → VK → Prop := fun xs H Q => ∃ O x ds, xs = [x] ∧ SrcD O H x ds ∧ okSrt ds = true ∧ ∀ p zs, H p = none → FzA O H zs (srtD ds) → Q (.ref p) (upd H p (.lst zs))
theorem cr_sortS (hc : X.calm = true) (hu : X.A.units + 66 < cLine) : CallR X (.builtin "sorted") rSortS := by
  intro pins s σ H xs us Q I rx h
  obtain ⟨O, x, ds, rfl, hs, ok, q⟩ := h
  obtain ⟨u, rfl, ru⟩ := vals1 rx
  obtain ⟨T, r, d, n, P, OK, vs, rfl, K, hok, hn, hz, f, hP⟩ := srcD_walk I hs ru
  subst hn
  refine Calls.call_function_entry kind_sorted plain_sorted entry_sorted (args_sorted1 _) ?_
  unfold Builtin.«sorted»
  refine wpAny_bind (m := checkCount "sorted" 1 1 _) (wpAny_pure ?_)
  refine wpAny_bind (PySem.W.kdu_collect (A := X.A.in1) K (I.ok.hd hc) hok hz fun h' tk acc hk hi => ?_)
  have rv := items_vals hi hP
  refine wpAny_bind (wpAny_newList ?_ (by rw [← rv.length]; exact hz))
  obtain ⟨e1, _, e3, e4, e5⟩ := srt_pre I rv f ok hu
  have I1 : Inv X pins σ H { s with heap := h', toks := tk } := I.kept (t' := tk) hk
  obtain ⟨_, e2, _⟩ := srt_pre I1 rv f ok hu
  have hl := f.len
  have hg := sort_laid (tk := tk) (Q := Q) I hk e1 e2 e3 ok (by omega) hu fun p zs np fz => q p zs np fz
  refine wpAny_bind (wpAny_holding (wpAny_mono hg (fun _ s' x => ?_) fun _ _ e => e))
  exact wpAny_pure ⟨_, rfl, x⟩
/-- tuples just laid are tracked -/
theorem takeX {H0 : Hp} {h' : Heap} {tk : Nat} {P : Addr → List V → Prop} (I0 : Inv X pins σ H0 s) : ∀ (L : List Addr) (H1 : Hp), Inv X pins σ H1 { s with heap := h', toks := tk } → L.Nodup →
    (∀ a ∈ L, s.heap.objs.size ≤ a ∧ H1 a = none ∧ ∃ o vs, P a vs ∧ o.dict = none ∧ ∀ H2, ObjOk X.prog X.w H2 h' a (.frz o (.tup vs))) →
    ∃ H2, Inv X pins σ H2 { s with heap := h', toks := tk } ∧ Ext H1 H2 ∧ ∀ a ∈ L, ∃ vs, P a vs ∧ TrT H2 a vs
  | [], H1, I1, _, _ => ⟨H1, I1, .refl _, fun _ h => nomatch h⟩
  | a :: L, H1, I1, hn, h => by
    obtain ⟨hb, hnone, o, vs, hP, hd, ok⟩ := h a (List.mem_cons_self ..)
    have I2 : Inv X pins σ (upd H1 a (.frz o (.tup vs))) { s with heap := h', toks := tk } := I1.take (h' := h') (t' := tk) (fun b ob _ e => e) (I0.fpOk hb hnone) (ok _)
    rw [List.nodup_cons] at hn
    obtain ⟨H2, I3, g, q⟩ := takeX I0 L _ I2 hn.2 fun c hc => by
      obtain ⟨c1, c2, c3⟩ := h c (List.mem_cons_of_mem _ hc)
      exact ⟨c1, by rw [upd_ne (fun z => hn.1 (by rw [← z]; exact hc))]; exact c2, c3⟩
    refine ⟨H2, I3, (Ext.new hnone).trans g, fun c hc => ?_⟩
    rcases List.mem_cons.mp hc with rfl | hc
    · exact ⟨vs, hP, o, g _ _ upd_same, hd⟩
    · exact q c hc
def rSortIt2 : List V → Hp → VK → Prop := fun xs H Q => ∃ O p a kvs, xs = [V.ref p] ∧ H p = some (viewO "dict_items" p a) ∧ Ob O H a (.dict kvs) ∧ (∀ b, O b → H b ≠ none) ∧ okSrt (kvItems kvs) = true ∧ ∀ H1 q zs, Ext H H1 → H1 q = none → FzA O H1 zs (srtD (kvItems kvs)) → Q (.ref q) (upd H1 q (.lst zs))
theorem cr_sortIt2 (hc : X.calm = true) (hu : X.A.units + 66 < cLine) : CallR X (.builtin "sorted") rSortIt2 := by
  intro pins s σ H xs us Q I rx h
  obtain ⟨O, p, a, kvs, rfl, hp, ho, hO, ok, q⟩ := h
  rw [Vals.ref1 rx]
  obtain ⟨o, es, ep, ks, vs, _, _, _, hm, hz, hsz, hns, rk, rv, fk, fv⟩ := ob_raw I ho
  refine DT.sortedI (es := es) (ep := ep) (I.ok.hd hc) ⟨_, view_at I hp, rfl, rfl⟩ hm hz fun h' tk as hk hlt hl hG => ?_
  have I1 : Inv X pins σ H { s with heap := h', toks := tk } := I.kept (t' := tk) hk
  have nd : as.Nodup := List.Pairwise.imp (fun h => Nat.ne_of_lt h) hG.rise
  have l1 := vals_sz rk
  have l2 := vals_sz rv
  have pr : ∀ b ∈ as, s.heap.objs.size ≤ b ∧ H b = none ∧ ∃ o ws, (∃ j k v, as[j]? = some b ∧ ks[j]? = some k ∧ vs[j]? = some v ∧ ws = [k, v]) ∧ o.dict = none ∧ ∀ H2, ObjOk X.prog X.w H2 h' b (.frz o (.tup ws)) := fun b hb => by
    obtain ⟨j, hj⟩ := List.mem_iff_getElem?.mp hb
    obtain ⟨e, he, hg⟩ := hG.pairs j b hj
    have hje : j < es.size := (Array.getElem?_eq_some_iff.mp he).1
    rw [Array.getElem?_eq_getElem hje] at he
    cases he
    obtain ⟨_, r1⟩ := vals_at rk (show j < ks.length by omega)
    obtain ⟨_, r2⟩ := vals_at rv (show j < vs.length by omega)
    refine ⟨Nat.le_of_lt (hG.above b hb), I.hok.fresh (Nat.le_of_lt (hG.above b hb)), _, _, ⟨j, _, _, hj, List.getElem?_eq_getElem (by omega), List.getElem?_eq_getElem (by omega), rfl⟩, rfl, fun H2 => ⟨hg, by show 2 ≤ sizeLine; decide, [es[j].key, es[j].val], .cons r1 (.cons r2 .nil), ⟨_, hg, rfl, _, rfl⟩⟩⟩
  obtain ⟨H2, I2, x2, tr⟩ := takeX (h' := h') (tk := tk) I as H I1 nd pr
  have nO : ∀ b ∈ as, ¬ O b := fun b hb z => hO b z (pr b hb).2.1
  have fA : FzA O H2 (as.map V.ref) (kvItems kvs) := by
    have key : ∀ (as : List Addr) (i0 : Nat) (kv : List (PyData × PyData)), as.length = kv.length → (∀ i b, as[i]? = some b → ∃ k v, ks[i0 + i]? = some k ∧ vs[i0 + i]? = some v ∧ TrT H2 b [k, v] ∧ ¬ O b) → (∀ i, kv[i]? = kvs[i0 + i]?) → FzA O H2 (as.map V.ref) (kvItems kv) := by
      intro as
      induction as with
      | nil => intro i0 kv e _ _; cases kv with
        | nil => exact .nil
        | cons _ _ => simp at e
      | cons b as ih =>
        intro i0 kv e h1 h2
        cases kv with
        | nil => simp at e
        | cons p kv =>
          obtain ⟨k, v, g1, g2, g3, g4⟩ := h1 0 b rfl
          have e0 := h2 0
          rw [List.getElem?_cons_zero] at e0
          obtain ⟨w1, q1, q2⟩ := fk.get (i := i0 + 0) (d := p.1) (by rw [List.getElem?_map, ← e0]; rfl)
          obtain ⟨w2, q3, q4⟩ := fv.get (i := i0 + 0) (d := p.2) (by rw [List.getElem?_map, ← e0]; rfl)
          rw [g1] at q1; cases q1
          rw [g2] at q3; cases q3
          refine .cons (.tup g3 g4 (.cons (q2.ext x2) (.cons (q4.ext x2) .nil))) (ih (i0 + 1) kv (by simpa using e) (fun i b hb => ?_) fun i => ?_)
          · have := h1 (i + 1) b (by simpa using hb)
            rw [show i0 + 1 + i = i0 + (i + 1) by omega]; exact this
          · have := h2 (i + 1)
            rw [List.getElem?_cons_succ] at this
            rw [show i0 + 1 + i = i0 + (i + 1) by omega]; exact this
    refine key as 0 kvs (by omega) (fun i b hb => ?_) fun i => by rw [Nat.zero_add]
    obtain ⟨ws, ⟨j, k, v, hj, e1, e2, rfl⟩, t⟩ := tr b (List.mem_of_getElem? hb)
    have : i = j := by
      have h1 := (List.getElem?_eq_some_iff.mp hb).1
      have h2 := (List.getElem?_eq_some_iff.mp hj).1
      exact (List.getElem?_inj h1 nd).mp (hb.trans hj.symm)
    subst this
    rw [Nat.zero_add]
    exact ⟨k, v, e1, e2, t, nO b (List.mem_of_getElem? hb)⟩
  have rA : Vals (as.map V.ref) (as.map Value.ref) := by
    clear fA tr nO pr nd hG hl
    induction as with
    | nil => exact .nil
    | cons a as ih => exact .cons rfl ih
  obtain ⟨e1, e2, e3, e4, e5⟩ := srt_pre I2 rA fA ok hu
  have hkl : (kvItems kvs).length ≤ sizeLine := by unfold kvItems; rw [List.length_map]; omega
  exact sort_laid (s := { s with heap := h', toks := tk }) (h' := h') (tk := tk) (Q := Q) I2 (fun _ _ e => e) e1 e2 e3 ok hkl hu fun p zs np fz => q H2 p zs x2 np fz
end
end DL

/-! DL35: the evaluators of sorted, min, max, of B(d.values()), B(d.items()) -/
namespace DL
open PySem PySem.Spec PyProof.Rows L2
section
variable {X : Cx} {G : Gm} {W : Wi} {Z Z' : Ow} {B A A1 A2 A0 : Nat → Option Addr} {σ σ1 : L2.St} {H H1 H2 H0 : Hp} {ρ ρ1 ρ2 : Ev} {Q : VK} {v : V} {r : RV}
def rOr (r1 r2 : List V → Hp → VK → Prop) : List V → Hp → VK → Prop := fun xs H Q => r1 xs H Q ∨ r2 xs H Q
theorem cr_or {f : Value} {r1 r2 : List V → Hp → VK → Prop} (h1 : CallR X f r1) (h2 : CallR X f r2) : CallR X f (rOr r1 r2) := fun pins s σ H xs us Q I r h => h.elim (h1 pins s σ H xs us Q I r) (h2 pins s σ H xs us Q I r)
/-! ### sorted -/
def srtPR (ds : List PyData) : Option (List Int) → PR
  | some ns => .new (iL (sortI ns))
  | none => if okSrt ds = true then .new (srtD ds) else .bad
def gSorted2 : GN
  | [.list ds] => srtPR ds (intsIn ds)
  | [.tuple ds] => intPR (fun ns => .new (iL (sortI ns))) (intsIn ds)
  | [.dict kvs] => srtPR (kvKeys kvs) none
  | _ => .bad
abbrev rSorted2 (K : PySem.W.Frag) := rOr (rSortI2 K) (rOr (rSrtL K) rSortS)
theorem cr_sorted2 (hc : X.calm = true) (hu : X.A.units + 66 < cLine) : CallR X (.builtin "sorted") (rSorted2 X.K) := cr_or cr_sortI2 (cr_or (cr_srtL hu) (cr_sortS hc hu))
theorem call_sorted2S {K : PySem.W.Frag} : CallS (rSorted2 K) gSorted2 := by
  intro O H xs ds Q hO hv h
  match ds, hv, h with
  | [.list ds], hv, h =>
    obtain ⟨x, rfl, p, ys, rfl, e1, f1⟩ := hv.one
    have h : PRS O H Q (srtPR ds (intsIn ds)) := h
    cases q : intsIn ds with
    | some ns => rw [q] at h; exact .inl (sort_fin (.inl (.of e1)) f1 (by rw [q]; exact h))
    | none =>
      rw [q] at h
      by_cases ok : okSrt ds = true
      · simp only [srtPR, if_pos ok] at h
        exact .inr (.inl ⟨p, ys, ds, O, rfl, .of e1, f1, ok, fun l zs hl fz => h l zs H _ (.refl _) hl (.new hl) upd_same fz⟩)
      · simp only [srtPR, if_neg ok] at h; exact h.elim
  | [.tuple ds], hv, h =>
    obtain ⟨x, rfl, p, ys, rfl, e1, _, f1⟩ := hv.one
    exact .inl (sort_fin (.inr e1.sq) f1 h)
  | [.dict kvs], hv, h =>
    obtain ⟨x, rfl, a, o, ks, vs, rfl, h1, h2, h3, h4⟩ := hv.one
    have h : PRS O H Q (srtPR (kvKeys kvs) none) := h
    by_cases ok : okSrt (kvKeys kvs) = true
    · simp only [srtPR, if_pos ok] at h
      exact .inr (.inr ⟨O, _, _, rfl, .inl ⟨a, kvs, rfl, ⟨o, ks, vs, h1, h2, h3, h4⟩, rfl⟩, ok, fun l zs hl fz => h l zs H _ (.refl _) hl (.new hl) upd_same fz⟩)
    · simp only [srtPR, if_neg ok] at h; exact h.elim
  | [], _, h => exact h.elim
  | [.none], _, h => exact h.elim
  | [.bool _], _, h => exact h.elim
  | [.int _], _, h => exact h.elim
  | [.str _], _, h => exact h.elim
  | d :: _ :: _, _, h => cases d <;> exact h.elim
/-! ### min, max of one list or tuple -/
def okMin (ds : List PyData) : Bool := (ds.all fun d => ds.all fun e => PySem.W.alike d e) && ((ds.all fun d => !isNone d) && decide (PyData.depthAll ds ≤ 32))
theorem okMin_al {ds : List PyData} (h : okMin ds = true) : PySem.W.AlikeAll ds := by
  unfold okMin at h
  rw [Bool.and_eq_true, Bool.and_eq_true, List.all_eq_true, List.all_eq_true] at h
  refine ⟨fun x hx y hy => List.all_eq_true.mp (h.1 x hx) y hy, fun x hx z => ?_⟩
  have := h.2.1 x hx
  subst z
  cases this
theorem okMin_dep {ds : List PyData} (h : okMin ds = true) : PyData.depthAll ds ≤ 32 := by
  unfold okMin at h
  rw [Bool.and_eq_true, Bool.and_eq_true] at h
  exact of_decide_eq_true h.2.2
theorem fold_mem {f : PyData → PyData → PyData} (hf : ∀ a b, f a b = a ∨ f a b = b) : ∀ (xs : List PyData) (x : PyData), xs.foldl f x ∈ x :: xs
  | [], x => List.mem_cons_self ..
  | y :: ys, x => by
    rw [List.foldl_cons]
    rcases List.mem_cons.mp (fold_mem hf ys (f x y)) with e | e
    · rw [e]
      rcases hf x y with z | z <;> rw [z] <;> simp
    · exact List.mem_cons_of_mem _ (List.mem_cons_of_mem _ e)
theorem minD_mem (x : PyData) (xs : List PyData) : PySem.W.minD x xs ∈ x :: xs := fold_mem (fun a b => by split <;> simp) xs x
theorem maxD_mem (x : PyData) (xs : List PyData) : PySem.W.maxD x xs ∈ x :: xs := fold_mem (fun a b => by split <;> simp) xs x
def rMM1 (f : PyData → List PyData → PyData) (K : PySem.W.Frag) : List V → Hp → VK → Prop := fun vs H Q => ∃ (p : Addr) (O : Ow) (ys : List V) (d : PyData) (ds : List PyData), vs = [V.ref p] ∧ (SqL K H p ys ∨ SqT K H p ys) ∧ FzA O H ys (d :: ds) ∧ okMin (d :: ds) = true ∧ ∀ v, Fz O H v (f d ds) → Q v H
theorem mm_fin {pins : List (Addr × Obj)} {s : Shared} {O : Ow} {ys : List V} {us : List Value} {d m : PyData} {ds : List PyData} {h' : Heap} {tk : Nat} {i : Nat} {v : Value} {bs : List Addr} (I : Inv X pins σ H s) (rv : Vals ys us) (f : FzA O H ys (d :: ds)) (ok : okMin (d :: ds) = true) (hm : m ∈ d :: ds)
    (hv : us[i]? = some v) (hr : Reads h' v m bs) (hk : ∀ b o, s.heap.get? b = some o → h'.get? b = some o) (q : ∀ v, Fz O H v m → Q v H) : EP X pins σ Q v { s with heap := h', toks := tk } := by
  have I1 : Inv X pins σ H { s with heap := h', toks := tk } := I.kept (t' := tk) hk
  have hi : i < ys.length := by rw [rv.length]; exact (List.getElem?_eq_some_iff.mp hv).1
  have hd : i < (d :: ds).length := by rw [← f.len]; exact hi
  obtain ⟨w, h1, h2⟩ := f.get (List.getElem?_eq_getElem hd)
  obtain ⟨u, h3, h4⟩ := rv.get h1
  rw [hv] at h3; cases h3
  have hmem : (d :: ds)[i] ∈ d :: ds := List.getElem_mem hd
  obtain ⟨al, _⟩ := okMin_al ok
  obtain ⟨as, r1⟩ := fz_rd I1 (alike_nd _ (al _ hmem _ hmem)) h2 h4
  have e := PySem.W.alike_unique _ _ _ _ _ (al _ hmem _ hm) r1 hr
  exact ⟨w, H, I1, h4, q w (by rw [← e]; exact h2)⟩
theorem cr_min1 (hc : X.calm = true) (hu : X.A.units + 66 < cLine) : CallR X (.builtin "min") (rMM1 PySem.W.minD X.K) := by
  intro pins s σ H vs us Q I r h
  obtain ⟨p, O, ys, d, ds, rfl, hs, f, ok, q⟩ := h
  rw [Vals.ref1 r]
  have dep := okMin_dep ok
  have nd : PyData.hasDictAll (d :: ds) = false := by
    have al := (okMin_al ok).1
    have : ∀ l : List PyData, (∀ x ∈ l, x.hasDict = false) → PyData.hasDictAll l = false := fun l => by
      induction l with
      | nil => intro _; rfl
      | cons x l ih => intro h; simp only [PyData.hasDictAll, h x (List.mem_cons_self ..), ih fun y hy => h y (List.mem_cons_of_mem _ hy), Bool.or_self]
    exact this _ fun x hx => alike_nd _ (al x hx x hx)
  rcases hs with hs | hs
  · obtain ⟨its, rv, pl, hz⟩ := I.list hs
    obtain ⟨as, hr⟩ := Dp.readsAll I _ _ _ (f.dp (K := X.K) nd) rv
    exact PySem.W.min_list_data (I.ok.hd hc) pl.isList (by simpa using hr) (okMin_al ok) (by omega) fun i v h' tk bs hv hr hk => mm_fin I rv f ok (minD_mem d ds) (by simpa using hv) hr hk q
  · obtain ⟨its, rv, pl, hz⟩ := I.tuple hs
    obtain ⟨as, hr⟩ := Dp.readsAll I _ _ _ (f.dp (K := X.K) nd) rv
    exact PySem.W.min_tuple_data (I.ok.hd hc) pl (by simpa using hr) (okMin_al ok) (by omega) fun i v h' tk bs hv hr hk => mm_fin I rv f ok (minD_mem d ds) (by simpa using hv) hr hk q
theorem cr_max1 (hc : X.calm = true) (hu : X.A.units + 66 < cLine) : CallR X (.builtin "max") (rMM1 PySem.W.maxD X.K) := by
  intro pins s σ H vs us Q I r h
  obtain ⟨p, O, ys, d, ds, rfl, hs, f, ok, q⟩ := h
  rw [Vals.ref1 r]
  have dep := okMin_dep ok
  have nd : PyData.hasDictAll (d :: ds) = false := by
    have al := (okMin_al ok).1
    have : ∀ l : List PyData, (∀ x ∈ l, x.hasDict = false) → PyData.hasDictAll l = false := fun l => by
      induction l with
      | nil => intro _; rfl
      | cons x l ih => intro h; simp only [PyData.hasDictAll, h x (List.mem_cons_self ..), ih fun y hy => h y (List.mem_cons_of_mem _ hy), Bool.or_self]
    exact this _ fun x hx => alike_nd _ (al x hx x hx)
  rcases hs with hs | hs
  · obtain ⟨its, rv, pl, hz⟩ := I.list hs
    obtain ⟨as, hr⟩ := Dp.readsAll I _ _ _ (f.dp (K := X.K) nd) rv
    exact PySem.W.max_list_data (I.ok.hd hc) pl.isList (by simpa using hr) (okMin_al ok) (by omega) fun i v h' tk bs hv hr hk => mm_fin I rv f ok (maxD_mem d ds) (by simpa using hv) hr hk q
  · obtain ⟨its, rv, pl, hz⟩ := I.tuple hs
    obtain ⟨as, hr⟩ := Dp.readsAll I _ _ _ (f.dp (K := X.K) nd) rv
    exact PySem.W.max_tuple_data (I.ok.hd hc) pl (by simpa using hr) (okMin_al ok) (by omega) fun i v h' tk bs hv hr hk => mm_fin I rv f ok (maxD_mem d ds) (by simpa using hv) hr hk q
def mmPR (f : PyData → List PyData → PyData) : List PyData → PR
  | d :: ds => if okMin (d :: ds) = true then .val (f d ds) else .bad
  | [] => .bad
def gMM (f : PyData → List PyData → PyData) : GN
  | [.list ds] => mmPR f ds
  | [.tuple ds] => mmPR f ds
  | _ => .bad
theorem mm1_S {K : PySem.W.Frag} {f : PyData → List PyData → PyData} : CallS (rMM1 f K) (gMM f) := by
  intro O H xs ds Q hO hv h
  match ds, hv, h with
  | [.list []], _, h => exact h.elim
  | [.list (d :: ds)], hv, h =>
    obtain ⟨x, rfl, p, ys, rfl, e1, f1⟩ := hv.one
    by_cases ok : okMin (d :: ds) = true
    · simp only [gMM, mmPR, if_pos ok] at h
      exact ⟨p, O, ys, d, ds, rfl, .inl (.of e1), f1, ok, fun v fv => h v H (.refl _) fv⟩
    · simp only [gMM, mmPR, if_neg ok] at h; exact h.elim
  | [.tuple []], _, h => exact h.elim
  | [.tuple (d :: ds)], hv, h =>
    obtain ⟨x, rfl, p, ys, rfl, e1, _, f1⟩ := hv.one
    by_cases ok : okMin (d :: ds) = true
    · simp only [gMM, mmPR, if_pos ok] at h
      exact ⟨p, O, ys, d, ds, rfl, .inr e1.sq, f1, ok, fun v fv => h v H (.refl _) fv⟩
    · simp only [gMM, mmPR, if_neg ok] at h; exact h.elim
  | [], _, h => exact h.elim
  | [.none], _, h => exact h.elim
  | [.bool _], _, h => exact h.elim
  | [.int _], _, h => exact h.elim
  | [.str _], _, h => exact h.elim
  | [.dict _], _, h => exact h.elim
  | d :: _ :: _, _, h => cases d <;> exact h.elim
/-! ### B(d.values()), B(d.items()) -/
abbrev GV := List (PyData × PyData) → PR
def pV (g : GV) : Option PyData → PR
  | some (.dict kvs) => g kvs
  | _ => .bad
def eBV (g : GV) (a : EvE) : EvE := fun ρ => (a ρ).bind fun r ρ1 => (pV g (res ρ1 r)).out ρ1
def ViewS (T : String) (r : List V → Hp → VK → Prop) (g : GV) : Prop := ∀ (O : Ow) (H : Hp) (a : Addr) (kvs : List (PyData × PyData)) (Q : VK), (∀ b, O b → H b ≠ none) → Ob O H a (.dict kvs) → PRS O H Q (g kvs) → ∀ p, H p = none → r [V.ref p] (upd H p (viewO T p a)) Q
def rViewX (T : String) : V → List V → Hp → VK → Prop := fun x xs H Q => ∃ a O kvs, x = V.ref a ∧ xs = [] ∧ Ob O H a (.dict kvs) ∧ ∀ p, H p = none → Q (.ref p) (upd H p (viewO T p a))
theorem mt_valuesX : MtR X "dict.values" (rViewX "dict_values") := by
  intro pins s σ H x xs v us Q I rx rxs h
  obtain ⟨a, O, kvs, rfl, rfl, g, q⟩ := h
  cases rx; cases rxs
  obtain ⟨o, es, ep, _, _, _, _, _, hm, _, _, hns, _⟩ := ob_raw I g
  exact call_meetsIn PySem.F.slot_dict_values hm.typeIs PySem.F.entry_dict_values (PySem.F.args_dict_values_1 _) (meets_dict_values_raw a hns) ⟨⟨es, ep, hm⟩,
    .ref s.heap.objs.size, _, I.laid (t' := s.toks) (fun b u e => Heap.get?_push_of_some _ e) (Nat.le_refl _) (viewO_ok (Heap.get?_push_size _ rfl)), rfl, q _ (I.hok.fresh (Nat.le_refl _))⟩
theorem mt_itemsX : MtR X "dict.items" (rViewX "dict_items") := by
  intro pins s σ H x xs v us Q I rx rxs h
  obtain ⟨a, O, kvs, rfl, rfl, g, q⟩ := h
  cases rx; cases rxs
  obtain ⟨o, es, ep, _, _, _, _, _, hm, _, _, hns, _⟩ := ob_raw I g
  exact call_meetsIn PySem.F.slot_dict_items hm.typeIs PySem.F.entry_dict_items (PySem.F.args_dict_items_1 _) (meets_dict_items_raw a hns) ⟨⟨es, ep, hm⟩,
    .ref s.heap.objs.size, _, I.laid (t' := s.toks) (fun b u e => Heap.get?_push_of_some _ e) (Nat.le_refl _) (viewO_ok (Heap.get?_push_size _ rfl)), rfl, q _ (I.hok.fresh (Nat.le_refl _))⟩
theorem bv_ok {T : String} {rr : List V → Hp → VK → Prop} {g : GV} {ea : EvE} (hs : ViewS T rr g) (R : Rep G Z B σ H ρ A) (d : Done G W Z B σ (pE G Z B σ Q) H A (eBV g ea ρ)) :
    dE G W ea σ H fun x H1 => tyD x H1 ∧ rViewX T x [] H1 fun v H2 => rr [v] H2 Q := by
  refine dE_bind shift_E R d fun r1 ρ1 v H1 A1 R1 x1 f1 d1 => ?_
  cases e1 : res ρ1 r1 with
  | none => rw [e1] at d1; exact d1.elim
  | some dx =>
    rw [e1] at d1
    cases dx with
    | dict kvs =>
      obtain ⟨a, o, ks, vs, rfl, h1, h2, h3, h4⟩ := f1.vw R1 e1
      have ob : Ob (Oo Z A1) H1 a (.dict kvs) := ⟨o, ks, vs, h1, h2, h3, h4⟩
      exact ⟨⟨a, _, kvs, rfl, ob⟩, a, _, kvs, rfl, rfl, ob, fun p np => hs _ H1 a kvs Q R1.oin ob (prs_fin R1 d1) p np⟩
    | none => exact d1.elim
    | bool _ => exact d1.elim
    | int _ => exact d1.elim
    | str _ => exact d1.elim
    | list _ => exact d1.elim
    | tuple _ => exact d1.elim
section
variable {id T : String} {x : Str} {p apos cpos pos : Pos} {e : Expr} {ea : EvE} {g : GV} {rr : List V → Hp → VK → Prop}
theorem de_Bvals (hc : CallR X (.builtin id) rr) (hs : ViewS "dict_values" rr g) (hg : Gl X x) (hm : X.mg x = none) (hv : bootBuiltins x = some (.builtin id)) (he : DE X G W e ea) (hbase : attributeBase e "values" X.env (eval e X.env) = eval e X.env := by rfl) (hline : (apos.endLine == cpos.line) = true := by rfl)
    (hn : x ≠ "__name__" := by decide) (hdb : (x == ("__debug__" : Str)) = false := by decide) (hst : starEach [Expr.Call (.Attribute e "values" apos) [] [] cpos] X.env = (false, eval (Expr.Call (.Attribute e "values" apos) [] [] cpos) X.env) :: starEach [] X.env := by rfl) (hpl : (backTo pos (starEach [] X.env)).any (·.1) = false := by rfl) :
    DE X G W (.Call (.Name x p) [.Call (.Attribute e "values" apos) [] [] cpos] [] pos) (eBV g ea) :=
  ⟨PE_imp (pe_callB hc hg hm hv (pa_cons (pe_mG0 ty_D PySem.F.plainAttrs_dict PySem.F.slot_dict_values PySem.F.type_dict_values mt_valuesX he.pe hbase hline) pa_nil hst) hn hdb hst hpl) fun σ H Q ⟨Z, B, ρ, A, R, d⟩ => bv_ok hs R d⟩
theorem de_Tvals (hc : CallR X (.type T) rr) (hs : ViewS "dict_values" rr g) (hg : Gl X x) (hm : X.mg x = none) (hv : bootBuiltins x = some (.type T)) (he : DE X G W e ea) (hbase : attributeBase e "values" X.env (eval e X.env) = eval e X.env := by rfl) (hline : (apos.endLine == cpos.line) = true := by rfl)
    (hn : x ≠ "__name__" := by decide) (hdb : (x == ("__debug__" : Str)) = false := by decide) (hst : starEach [Expr.Call (.Attribute e "values" apos) [] [] cpos] X.env = (false, eval (Expr.Call (.Attribute e "values" apos) [] [] cpos) X.env) :: starEach [] X.env := by rfl) (hpl : (backTo pos (starEach [] X.env)).any (·.1) = false := by rfl) :
    DE X G W (.Call (.Name x p) [.Call (.Attribute e "values" apos) [] [] cpos] [] pos) (eBV g ea) :=
  ⟨PE_imp (pe_callTy hc hg hm hv (pa_cons (pe_mG0 ty_D PySem.F.plainAttrs_dict PySem.F.slot_dict_values PySem.F.type_dict_values mt_valuesX he.pe hbase hline) pa_nil hst) hn hdb hst hpl) fun σ H Q ⟨Z, B, ρ, A, R, d⟩ => bv_ok hs R d⟩
theorem de_Bitems (hc : CallR X (.builtin id) rr) (hs : ViewS "dict_items" rr g) (hg : Gl X x) (hm : X.mg x = none) (hv : bootBuiltins x = some (.builtin id)) (he : DE X G W e ea) (hbase : attributeBase e "items" X.env (eval e X.env) = eval e X.env := by rfl) (hline : (apos.endLine == cpos.line) = true := by rfl)
    (hn : x ≠ "__name__" := by decide) (hdb : (x == ("__debug__" : Str)) = false := by decide) (hst : starEach [Expr.Call (.Attribute e "items" apos) [] [] cpos] X.env = (false, eval (Expr.Call (.Attribute e "items" apos) [] [] cpos) X.env) :: starEach [] X.env := by rfl) (hpl : (backTo pos (starEach [] X.env)).any (·.1) = false := by rfl) :
    DE X G W (.Call (.Name x p) [.Call (.Attribute e "items" apos) [] [] cpos] [] pos) (eBV g ea) :=
  ⟨PE_imp (pe_callB hc hg hm hv (pa_cons (pe_mG0 ty_D PySem.F.plainAttrs_dict PySem.F.slot_dict_items PySem.F.type_dict_items mt_itemsX he.pe hbase hline) pa_nil hst) hn hdb hst hpl) fun σ H Q ⟨Z, B, ρ, A, R, d⟩ => bv_ok hs R d⟩
end
theorem ob_upd {O : Ow} {H : Hp} {p a : Addr} {o : HO} {kvs : List (PyData × PyData)} (np : H p = none) (h : Ob O H a (.dict kvs)) : Ob O (upd H p o) a (.dict kvs) := h.mono (Ext.new np).kp (fun _ z => .inl z) (Ext.new np).kp1
theorem src_view {O : Ow} {H : Hp} {p a : Addr} {kvs : List (PyData × PyData)} (np : H p = none) (h : Ob O H a (.dict kvs)) : SrcD O (upd H p (viewO "dict_values" p a)) (V.ref p) (kvVals kvs) := .inr ⟨p, a, kvs, rfl, upd_same, ob_upd np h, rfl⟩
def gvSum : GV := fun kvs => intPR (fun ns => .val (.int ns.sum)) (intsIn (kvVals kvs))
def minI : List Int → PR
  | [] => .bad
  | n :: r => .val (.int (r.foldl min n))
def maxI : List Int → PR
  | [] => .bad
  | n :: r => .val (.int (r.foldl max n))
def gvMin : GV := fun kvs => intPR minI (intsIn (kvVals kvs))
def gvMax : GV := fun kvs => intPR maxI (intsIn (kvVals kvs))
def gvList : GV := fun kvs => .new (kvVals kvs)
def gvSortIt : GV := fun kvs => if okSrt (kvItems kvs) = true then .new (srtD (kvItems kvs)) else .bad
theorem foldl_min_le : ∀ (r : List Int) (n : Int), r.foldl min n ≤ n ∧ ∀ j ∈ r, r.foldl min n ≤ j
  | [], n => ⟨Int.le_refl _, fun _ h => nomatch h⟩
  | a :: r, n => by
    have := foldl_min_le r (min n a)
    rw [List.foldl_cons]
    refine ⟨by omega, fun j hj => ?_⟩
    rcases List.mem_cons.mp hj with rfl | hj
    · omega
    · exact this.2 j hj
theorem foldl_min_mem : ∀ (r : List Int) (n : Int), r.foldl min n ∈ n :: r
  | [], n => List.mem_cons_self ..
  | a :: r, n => by
    rw [List.foldl_cons]
    rcases List.mem_cons.mp (foldl_min_mem r (min n a)) with e | e
    · rw [e]
      rcases Int.le_total n a with h | h
      · rw [Int.min_eq_left h]; simp
      · rw [Int.min_eq_right h]; simp
    · exact List.mem_cons_of_mem _ (List.mem_cons_of_mem _ e)
theorem foldl_max_le : ∀ (r : List Int) (n : Int), n ≤ r.foldl max n ∧ ∀ j ∈ r, j ≤ r.foldl max n
  | [], n => ⟨Int.le_refl _, fun _ h => nomatch h⟩
  | a :: r, n => by
    have := foldl_max_le r (max n a)
    rw [List.foldl_cons]
    refine ⟨by omega, fun j hj => ?_⟩
    rcases List.mem_cons.mp hj with rfl | hj
    · omega
    · exact this.2 j hj
theorem foldl_max_mem : ∀ (r : List Int) (n : Int), r.foldl max n ∈ n :: r
  | [], n => List.mem_cons_self ..
  | a :: r, n => by
    rw [List.foldl_cons]
    rcases List.mem_cons.mp (foldl_max_mem r (max n a)) with e | e
    · rw [e]
      rcases Int.le_total n a with h | h
      · rw [Int.max_eq_right h]; simp
      · rw [Int.max_eq_left h]; simp
    · exact List.mem_cons_of_mem _ (List.mem_cons_of_mem _ e)
theorem intsIn_eq : ∀ {ds : List PyData} {ns : List Int}, intsIn ds = some ns → ds = iL ns
  | [], _, h => by cases h; rfl
  | .int i :: ds, _, h => by
    simp only [intsIn] at h
    cases q : intsIn ds with
    | none => rw [q] at h; cases h
    | some ms => rw [q] at h; cases h; rw [intsIn_eq q]; rfl
  | .none :: _, _, h => by simp [intsIn] at h
  | .bool _ :: _, _, h => by simp [intsIn] at h
  | .str _ :: _, _, h => by simp [intsIn] at h
  | .list _ :: _, _, h => by simp [intsIn] at h
  | .tuple _ :: _, _, h => by simp [intsIn] at h
  | .dict _ :: _, _, h => by simp [intsIn] at h
theorem vs_sum : ViewS "dict_values" rSumS gvSum := by
  intro O H a kvs Q hO ho h p np
  unfold gvSum at h
  cases q : intsIn (kvVals kvs) with
  | none => rw [q] at h; exact h.elim
  | some ns =>
    rw [q] at h
    exact ⟨O, _, ns, rfl, by rw [← intsIn_eq q]; exact src_view np ho, h _ _ (.new np) (.int _)⟩
theorem vs_min : ViewS "dict_values" rMinS gvMin := by
  intro O H a kvs Q hO ho h p np
  unfold gvMin at h
  cases q : intsIn (kvVals kvs) with
  | none => rw [q] at h; exact h.elim
  | some ns =>
    rw [q] at h
    refine ⟨O, _, ns, rfl, by rw [← intsIn_eq q]; exact src_view np ho, ?_⟩
    cases ns with
    | nil => exact h.elim
    | cons n r =>
      refine ⟨by simp, fun m hm hl => ?_⟩
      have h1 := foldl_min_le r n
      have h2 := foldl_min_mem r n
      have : m = r.foldl min n := by
        have := hl _ h2
        rcases List.mem_cons.mp hm with rfl | hm
        · omega
        · have := h1.2 m hm; omega
      rw [this]
      exact h _ _ (.new np) (.int _)
theorem vs_max : ViewS "dict_values" rMaxS gvMax := by
  intro O H a kvs Q hO ho h p np
  unfold gvMax at h
  cases q : intsIn (kvVals kvs) with
  | none => rw [q] at h; exact h.elim
  | some ns =>
    rw [q] at h
    refine ⟨O, _, ns, rfl, by rw [← intsIn_eq q]; exact src_view np ho, ?_⟩
    cases ns with
    | nil => exact h.elim
    | cons n r =>
      refine ⟨by simp, fun m hm hl => ?_⟩
      have h1 := foldl_max_le r n
      have h2 := foldl_max_mem r n
      have : m = r.foldl max n := by
        have := hl _ h2
        rcases List.mem_cons.mp hm with rfl | hm
        · omega
        · have := h1.2 m hm; omega
      rw [this]
      exact h _ _ (.new np) (.int _)
theorem vs_list : ViewS "dict_values" rListS gvList := by
  intro O H a kvs Q hO ho h p np
  exact ⟨O, _, _, rfl, src_view np ho, fun l zs hl fz => by
    have hp : H l = none := by
      cases q : H l with
      | none => rfl
      | some o => rw [Ext.new np l o q] at hl; cases hl
    exact h l zs _ _ (.new np) hl (.new hl) upd_same fz⟩
theorem vs_sortIt : ViewS "dict_items" rSortIt2 gvSortIt := by
  intro O H a kvs Q hO ho h p np
  by_cases ok : okSrt (kvItems kvs) = true
  · simp only [gvSortIt, if_pos ok] at h
    exact ⟨O, p, a, kvs, rfl, upd_same, ob_upd np ho, fun b z => by
      rw [upd_ne (fun e => hO b z (by rw [e]; exact np))]; exact hO b z, ok, fun H1 l zs x hl fz => h l zs H1 _ ((Ext.new np).trans x) hl (.new hl) upd_same fz⟩
  · simp only [gvSortIt, if_neg ok] at h; exact h.elim
end
theorem o_sorted2L {ds : List PyData} : gSorted2 [.list ds] = srtPR ds (intsIn ds) := rfl
theorem o_sorted2T {ds : List PyData} : gSorted2 [.tuple ds] = intPR (fun ns => .new (iL (sortI ns))) (intsIn ds) := rfl
theorem o_sorted2D {kvs : List (PyData × PyData)} : gSorted2 [.dict kvs] = srtPR (kvKeys kvs) none := rfl
theorem srtPR_s {ds : List PyData} {ns : List Int} : srtPR ds (some ns) = .new (iL (sortI ns)) := rfl
theorem srtPR_n {ds : List PyData} : srtPR ds none = if okSrt ds = true then .new (srtD ds) else .bad := rfl
theorem o_mmL {f : PyData → List PyData → PyData} {ds : List PyData} : gMM f [.list ds] = mmPR f ds := rfl
theorem o_mmT {f : PyData → List PyData → PyData} {ds : List PyData} : gMM f [.tuple ds] = mmPR f ds := rfl
theorem mmPR_ {f : PyData → List PyData → PyData} {d : PyData} {ds : List PyData} : mmPR f (d :: ds) = if okMin (d :: ds) = true then .val (f d ds) else .bad := rfl
theorem eBV_ {g : GV} {a : EvE} {ρ : Ev} : eBV g a ρ = (a ρ).bind fun r ρ1 => (pV g (res ρ1 r)).out ρ1 := rfl
theorem pV_ {g : GV} {kvs : List (PyData × PyData)} : pV g (some (.dict kvs)) = g kvs := rfl
theorem gvSum_ {kvs : List (PyData × PyData)} : gvSum kvs = intPR (fun ns => .val (.int ns.sum)) (intsIn (kvVals kvs)) := rfl
theorem gvMin_ {kvs : List (PyData × PyData)} : gvMin kvs = intPR minI (intsIn (kvVals kvs)) := rfl
theorem gvMax_ {kvs : List (PyData × PyData)} : gvMax kvs = intPR maxI (intsIn (kvVals kvs)) := rfl
theorem gvList_ {kvs : List (PyData × PyData)} : gvList kvs = .new (kvVals kvs) := rfl
theorem gvSortIt_ {kvs : List (PyData × PyData)} : gvSortIt kvs = if okSrt (kvItems kvs) = true then .new (srtD (kvItems kvs)) else .bad := rfl
end DL

/-! DL36: {k: v for .. in ..}, d[k] += e -/
namespace DL
open PySem PySem.Spec PyProof.Rows L2
section
variable {X : Cx} {pins : List (Addr × Obj)} {σ : L2.St} {H : Hp} {s : Shared} {O : Ow} {a : Addr} {kvs : List (PyData × PyData)} {k d : PyData} {y v : V} {u r : Value} {A : Around} {E : Value → Shared → Prop}
theorem at_room (hu : A.units + 10 < cLine) : (nestedKind X.prog X.w).room A := by
  show A.units + 8 < cLine
  omega
/-- an entry laid by a comprehension -/
theorem xd_lay {Q : Unit → Shared → Prop} (hu : A.units + 10 < cLine) (I : Inv X pins σ H s) (ho : Ob O H a (.dict kvs)) (hO : O a) (hk : Vw O H y k) (ry : RelV y u) (hm : dMode kvs k = true) (hz : kvs.length < sizeLine) (hf : Fz O H v d) (rv : RelV v r)
    (h : ∀ o' s', Inv X pins σ (upd H a (XO o' a)) s' → Ob O (upd H a (XO o' a)) a (.dict (kPut kvs k d)) → Q () s') : wpAny (model X.prog X.w) A (dictSet a u r) Q E s := by
  have hns := xo_ns I ho
  obtain ⟨o, ks0, vs0, hx, _, fk, _⟩ := id ho
  have hgt := xo_gt I.hok hx
  have mu : Mut (H a) := by rw [hx]; exact True.intro
  have mono : ∀ {o' : Obj} (b : Addr) (q : HO), H b = some q → ¬ O b → upd H a (XO o' a) b = some q := fun b q e n => by rw [upd_ne (fun z => n (by rw [z]; exact hO))]; exact e
  rcases mode_or hm with ⟨m1, m2⟩ | ⟨m1, m2⟩
  · obtain ⟨i, rfl⟩ := kyI_int m1
    have hk : y = .int i := hk
    subst hk
    obtain ⟨t, rfl⟩ := ry
    obtain ⟨xs, vs, D⟩ := dc_I I ho m2
    have hl : xs.length = kvs.length := by have := congrArg List.length D.2.1; simpa using this.symm
    refine wpAny_dictSet_pairs (hsz := D.2.2.2.2) (intKind_is _ _ _ _) D.1 fun h' dd' hs => ?_
    have key : ∃ vs', Vals vs' ((stored xs i r).map (·.2)) ∧ FzA O H vs' ((kPut kvs (.int i) d).map Prod.snd) ∧ (kPut kvs (.int i) d).map Prod.fst = (stored xs i r).map (fun x => PyData.int x.1) ∧ (stored xs i r).length ≤ sizeLine := by
      have g := got_I (i := i) D
      cases q : kAt kvs (.int i) with
      | none =>
        have e := g.1 q
        have e2 : stored xs i r = xs ++ [(i, r)] := by
          have : (xs.any fun kv => decide (kv.1 = i)) = false := by
            unfold valueAt at e
            rw [Option.map_eq_none_iff, List.find?_eq_none] at e
            rw [List.any_eq_false]
            intro x hx
            simpa using e x hx
          unfold stored
          rw [if_neg (by rw [this]; simp)]
        have e3 : kPut kvs (.int i) d = kvs ++ [(.int i, d)] := by unfold kPut; rw [q]; rfl
        rw [e2, e3]
        refine ⟨vs ++ [v], ?_, ?_, ?_, by rw [List.length_append, hl]; exact hz⟩
        · rw [List.map_append]; exact Vals.append D.2.2.1 (.cons rv .nil)
        · rw [List.map_append]; exact D.2.2.2.1.append (.cons hf .nil)
        · rw [List.map_append, List.map_append, D.2.1]; rfl
      | some d0 =>
        obtain ⟨u0, w0, e, _⟩ := g.2 d0 q
        have e2 : stored xs i r = xs.map (repI i r) := by
          have : (xs.any fun kv => decide (kv.1 = i)) = true := by
            unfold valueAt at e
            obtain ⟨p, hp, _⟩ := Option.map_eq_some_iff.mp e
            rw [List.any_eq_true]
            exact ⟨p, List.mem_of_find?_eq_some hp, by have := List.find?_some hp; simpa using this⟩
          unfold stored
          rw [if_pos this]; rfl
        have e3 : kPut kvs (.int i) d = kvs.map (kRep (.int i) d) := by unfold kPut; rw [q]; rfl
        obtain ⟨vs', a1, a2, a3⟩ := rep_I (i := i) rv hf xs kvs vs D.2.1 D.2.2.1 D.2.2.2.1
        rw [e2, e3]
        exact ⟨vs', a1, a2, a3, by rw [List.length_map]; exact D.2.2.2.2⟩
    obtain ⟨vs', a1, a2, a3, a4⟩ := key
    obtain ⟨o', ho', hd'⟩ := dobj_I dd' a4 a1
    refine h o' _ (d_write I mu hs ⟨o', ho'⟩ (xo_ok ho' hgt)) ⟨o', _, vs', upd_same, by rw [a3]; exact hd', ?_, a2.mono (fun b q e n => .of (mono b q e n)) (fun _ z => .inl z) _⟩
    rw [a3]
    have : ∀ l : List (Int × Value), FzA O (upd H a (XO o' a)) (l.map fun x => V.int x.1) (l.map fun x => PyData.int x.1) := fun l => by
      induction l with
      | nil => exact .nil
      | cons x l ih => exact .cons (.int _) ih
    exact this _
  · have f := vw_ky hk (.inr m1)
    obtain ⟨ks, hn, hd⟩ := kyT_some m1
    have hi := fz_nk I hn f ry
    obtain ⟨b, rfl⟩ := kyT_ref f m1
    cases (show u = Value.ref b from ry)
    obtain ⟨xs, vs, D⟩ := dc_T I ho m2
    have hl : xs.length = kvs.length := by have := congrArg List.length D.2.1; simpa using this.symm
    have hall : ((kPut kvs k d).map Prod.fst).all kyT = true := by rw [List.all_map]; exact kAt_rep_all m1 m2
    refine wpAny_dictSet_heap (hsz := D.2.2.2.2.2) (at_room hu) ⟨hi, hd⟩ D.1 fun h' dd' hs => ?_
    have key : ∃ vs', Vals vs' ((storedH xs (.tup ks) b r).map (·.2.2)) ∧ FzA O H vs' ((kPut kvs k d).map Prod.snd) ∧ FzA O H ((storedH xs (.tup ks) b r).map fun x => V.ref x.2.1) ((kPut kvs k d).map Prod.fst) ∧
        (kPut kvs k d).map (fun p => nkD p.1) = (storedH xs (.tup ks) b r).map (fun x => some x.1) ∧ (storedH xs (.tup ks) b r).length ≤ sizeLine := by
      have g := find_T xs kvs vs k (.tup ks) D.2.1 D.2.2.1 D.2.2.2.1 hn
      cases q : kAt kvs k with
      | none =>
        have e := g.1 q
        have e2 := storedH_new e b r
        have e3 : kPut kvs k d = kvs ++ [(k, d)] := by unfold kPut; rw [q]; rfl
        rw [e2, e3]
        refine ⟨vs ++ [v], ?_, ?_, ?_, ?_, by rw [List.length_append, hl]; exact hz⟩
        · rw [List.map_append]; exact Vals.append D.2.2.1 (.cons rv .nil)
        · rw [List.map_append]; exact D.2.2.2.1.append (.cons hf .nil)
        · rw [List.map_append, List.map_append]; exact D.2.2.2.2.1.append (.cons f .nil)
        · rw [List.map_append, List.map_append, D.2.1]
          show _ ++ [nkD k] = _ ++ [some (NestedKey.tup ks)]
          rw [hn]
      | some d0 =>
        obtain ⟨p, w0, e, _⟩ := g.2 d0 q
        have e2 : storedH xs (.tup ks) b r = xs.map (putAt (.tup ks) r) := by unfold storedH; rw [e]; rfl
        have e3 : kPut kvs k d = kvs.map (kRep k d) := by unfold kPut; rw [q]; rfl
        obtain ⟨vs', a1, a2, a3, a4⟩ := rep_T hn rv hf xs kvs vs D.2.1 D.2.2.1 D.2.2.2.1 D.2.2.2.2.1
        rw [e2, e3]
        exact ⟨vs', a1, a2, a3, a4, by rw [List.length_map]; exact D.2.2.2.2.2⟩
    obtain ⟨vs', a1, a2, a3, a4, a5⟩ := key
    have a4' : ((kPut kvs k d).map Prod.fst).map nkD = (storedH xs (.tup ks) b r).map (fun x => some x.1) := by rw [List.map_map]; exact a4
    obtain ⟨o', ho', hd'⟩ := dobj_T dd' a5 a1 a4' hall
    exact h o' _ (d_write I mu hs ⟨o', ho'⟩ (xo_ok ho' hgt)) ⟨o', _, vs', upd_same, hd', a3.mono (fun b q e n => .of (mono b q e n)) (fun _ z => .inl z) _, a2.mono (fun b q e n => .of (mono b q e n)) (fun _ z => .inl z) _⟩
end
section
variable {X : Cx}
/-- {k: v for .. in .. if ..}: D the new dict -/
def tDcX (wi : TI) (g : TG) (tt : TT) (tk tv : TE) (vs : List Nat) : TE := fun σ H Q => wi σ H fun J H1 => ∀ D o, H1 D = none → DObj o [] [] [] → ∃ N : Nat → Nat → Hp → Prop, (∃ m, N 0 m (upd H1 D (XO o D))) ∧ ∀ i m H, N i m H →
  (J.stop i H ∧ Q (.ref D) H) ∨ (J.go i H ∧ ∃ Nx : Hp → Prop, (∀ H', Nx H' → ∃ m', m' < m ∧ N (i + 1) m' H') ∧ ∀ x H', J.yld i H x H' → g x (wipe σ vs) H' fun σ2 H2 => wipe σ2 vs = wipe σ vs ∧ tt σ2 H2 fun b H3 =>
    if b = true then tk σ2 H3 fun y H4 => tv σ2 H4 fun z H5 => ∃ O kvs k v, Ob O H5 D (.dict kvs) ∧ O D ∧ Vw O H5 y k ∧ dMode kvs k = true ∧ kvs.length < sizeLine ∧ Fz O H5 z v ∧ ∀ o', Ob O (upd H5 D (XO o' D)) D (.dict (kPut kvs k v)) → Nx (upd H5 D (XO o' D)) else Nx H3)
theorem dcX_core {pins : List (Addr × Obj)} {s : Shared} {σ : L2.St} {H : Hp} {Q : VK} {kx vx tg iter : Expr} {ifs : List Expr} {scope : Scope} {own : List (Str × Nat)} {pos pos' : Pos} {wi : TI} {g : TG} {tt : TT} {tk tv : TE} {use : Option (Value → Sem Unit)} {Qf : Value → Shared → Prop}
    (hu : X.A.units + 10 < cLine) (hc : X.calm = true) (hN : X.N.Nodup) (I : Inv X pins σ H s) (hi : PI X tg iter wi) (ok : BlkOk X.N X.env.scope scope own)
    (hg : ∀ (s : Shared) (H : Hp) (C : Addr) (cl : List (Str × Addr)) (fp : List Addr), PG (X.blk s H scope (compEnvC scope cl C X.env) fp) tg g) (ht : ∀ (s : Shared) (H : Hp) (C : Addr) (cl : List (Str × Addr)) (fp : List Addr), PTs (X.blk s H scope (compEnvC scope cl C X.env) fp) ifs tt)
    (hk : ∀ (s : Shared) (H : Hp) (C : Addr) (cl : List (Str × Addr)) (fp : List Addr), PE (X.blk s H scope (compEnvC scope cl C X.env) fp) kx tk)
    (he : ∀ (s : Shared) (H : Hp) (C : Addr) (cl : List (Str × Addr)) (fp : List Addr), PE (X.blk s H scope (compEnvC scope cl C X.env) fp) vx tv) (hs : ∀ x, foldedSetIterable iter X.env x = pure x)
    (h : tDcX wi g tt tk tv (own.map (·.2)) σ H Q)
    (hRR : ∀ D C s' m H', Inv X pins σ H' s' → Q (.ref D) H' → s'.heap.Ns C m → FpOk X pins H' C → compPost (model X.prog X.w) X.A X.xe use Qf (.ref D) C (.ok .next) s') :
    wpAny (model X.prog X.w) X.A (comprehension (.DictComp kx vx [⟨tg, iter, ifs, 0⟩] scope pos) scope X.env pos' newDict false (eval iter X.env) use) Qf X.xe s := by
  have hfree : ∀ y ∈ scope.names, y.2 = .free → ∃ c, X.env.cells.lookup y.1 = some c := fun y hy e => I.ok.has _ ((ok.free y hy e).elim .inl .inr)
  refine wpAny_comprehension_free (use := use) rfl hs (closure_ok hfree) ok.kind (fun y hy e => by rw [ok.uniq y hy, e])
    (thn (hi.run pins s σ H _ I h) fun xv s1 hx => thn hx fun itv s2 ⟨it, fp, tn, J, H2, e, I2, T, st2, f2, q⟩ => ?_)
  subst e
  refine wpAny_newObj_type (newEnv_comp ?_)
  generalize hD : s2.heap.objs.size = D
  have hDn : H2 D = none := I2.hok.fresh (Nat.le_of_eq hD)
  obtain ⟨N, ⟨m0, w0⟩, turn⟩ := q D { cls := .type "dict", data := .dict #[] } hDn dobj_nil
  generalize hs3 : ({ s2 with heap := s2.heap.push { cls := .type "dict", data := .dict #[] } } : Shared) = s3
  have h3 : s3.heap = s2.heap.push { cls := .type "dict", data := .dict #[] } := by rw [← hs3]
  have I3 : Inv X pins σ (upd H2 D (XO { cls := .type "dict", data := .dict #[] } D)) s3 := by
    rw [← hs3, ← hD]
    exact I2.laid (t' := s2.toks) (fun b o e => Heap.get?_push_of_some _ e) (Nat.le_refl _) (xo_ok (Heap.get?_push_size _ rfl) I2.big)
  have f3 : ∀ b ∈ fp, FpOk X pins (upd H2 D (XO { cls := .type "dict", data := .dict #[] } D)) b ∧ b < s3.heap.objs.size := fun b hb => by
    obtain ⟨o, e, _⟩ := T.obj _ _ st2 b hb
    have lt := Heap.lt_size e
    exact ⟨⟨by rw [upd_ne (by rw [← hD]; exact Nat.ne_of_lt lt)]; exact (f2 b hb).1, (f2 b hb).2⟩, by rw [h3, Heap.size_push]; exact Nat.lt_succ_of_lt lt⟩
  have st3 : tn 0 s3.heap := T.keep _ _ _ st2 fun b _ o e => by rw [h3]; exact Heap.get?_push_of_some _ e
  have I4 := block_start I3 ok hN f3
  generalize hH3 : upd H2 D (XO { cls := .type "dict", data := .dict #[] } D) = H3 at I3 I4 w0 f3
  have pg := hg s3 H3 s3.heap.objs.size (cellsFrom (s3.heap.objs.size + 1) scope.names (cloFrom X.env.cells scope.names [])) fp
  have pt := ht s3 H3 s3.heap.objs.size (cellsFrom (s3.heap.objs.size + 1) scope.names (cloFrom X.env.cells scope.names [])) fp
  have pk := hk s3 H3 s3.heap.objs.size (cellsFrom (s3.heap.objs.size + 1) scope.names (cloFrom X.env.cells scope.names [])) fp
  have pe := he s3 H3 s3.heap.objs.size (cellsFrom (s3.heap.objs.size + 1) scope.names (cloFrom X.env.cells scope.names [])) fp
  have nfp : ∀ b ∈ fp, H3 b = none := fun b hb => (f3 b hb).1.1
  show codeAny _ _ (.compStart (.DictComp kx vx [⟨tg, iter, ifs, 0⟩] scope pos) 0 (.ref it) (.ref D) (compEnvC scope (cellsFrom (s3.heap.objs.size + 1) scope.names (cloFrom X.env.cells scope.names [])) s3.heap.objs.size X.env)) (compPost (model X.prog X.w) X.A X.xe use Qf (.ref D) s3.heap.objs.size) { s3 with heap := pushCells (s3.heap.push { cls := .type "dict", data := .dict #[] }) scope.names }
  generalize hce : compEnvC scope (cellsFrom (s3.heap.objs.size + 1) scope.names (cloFrom X.env.cells scope.names [])) s3.heap.objs.size X.env = ce at I4 pg pt pk pe ⊢
  have cL : ce.locals = s3.heap.objs.size := by subst hce; rfl
  generalize hs4 : ({ s3 with heap := pushCells (s3.heap.push { cls := .type "dict", data := .dict #[] }) scope.names } : Shared) = s4 at I4 ⊢
  have st4 : tn 0 s4.heap := T.keep _ _ _ st3 fun b _ o e => by rw [← hs4]; exact pushCells_keeps _ _ _ _ (Heap.get?_push_of_some _ e)
  have stat : ∀ {σ' : L2.St} {H' : Hp} {s' : Shared}, Inv (X.blk s3 H3 scope ce fp) [] σ' H' s' → (∀ b ∈ fp, H' b = none) → ∀ b ∈ fp, FpOk (X.blk s3 H3 scope ce fp) [] H' b := fun {σ' H' s'} I' hn b hb =>
    ⟨hn b hb, (I'.ok.exf b hb).1, I'.ok.exfs b hb, .inl hb, fun x c e => (I'.ok.exf b hb).2 x c e, fun p hp => absurd (show p ∈ ([] : List (Addr × Obj)) ++ [] from hp) (by simp)⟩
  have loop : codeAny (model X.prog X.w) X.A (.compLoop (.DictComp kx vx [⟨tg, iter, ifs, 0⟩] scope pos) 0 (.ref it) (.ref D) ce) (compPost (model X.prog X.w) X.A X.xe use Qf (.ref D) s3.heap.objs.size) s4 := by
    refine compLoop_anyD (fun n s' => ∃ i H', Inv (X.blk s3 H3 scope ce fp) [] (wipe σ (own.map (·.2))) H' s' ∧ tn i s'.heap ∧ (∀ b ∈ fp, H' b = none) ∧ N i n H') ?_ m0 ⟨0, H3, I4, st4, nfp, w0⟩
    rintro n s5 ⟨i, H5, I5, st5, n5, w5⟩
    rcases turn i n H5 w5 with ⟨stop, qq⟩ | ⟨go, Nx, hNx, step⟩
    · refine thnF (T.done (X.blk s3 H3 scope ce fp) rfl rfl rfl hc i [] s5 _ H5 (fun _ _ => False) I5 (stat I5 n5) st5 stop) fun r s6 ⟨hr, I6⟩ => ?_
      subst hr
      have I7 : Inv X pins σ H5 s6 := I3.call' (ch := fp) I6.os I6.base I6.hok I6.bare fun b hb => ⟨(f3 b hb).1.2.2.2.1, (f3 b hb).1.2.1, (f3 b hb).1.2.2.2.2.1, (f3 b hb).1.2.2.2.2.2⟩
      have nC : H5 s3.heap.objs.size = none := by rw [← cL]; exact I6.free
      obtain ⟨m, hn, _⟩ := I6.loc
      have hn : s6.heap.Ns s3.heap.objs.size m := by rw [← cL]; exact hn
      exact hRR D s3.heap.objs.size s6 m H5 I7 qq hn (I3.fpOk (Nat.le_refl _) nC)
    · refine thnF (T.item (X.blk s3 H3 scope ce fp) rfl rfl rfl hc i [] s5 _ H5 (fun _ _ => False) I5 (stat I5 n5) st5 go) fun r s6 ⟨u, hr, h6⟩ => ?_
      subst hr
      refine thnF h6 fun _ s7 ⟨x, H7, I7, r7, y7, st7, n7⟩ => ?_
      have I7' := I7.pinned (stat I7 n7) (T.obj _ _ st7)
      refine thnF (pg.run _ s7 _ H7 x u _ I7' r7 (step x H7 y7)) fun _ s8 ⟨σ8, H8, I8, hw8, q8⟩ => ?_
      refine thnF (pt.run _ s8 σ8 H8 _ I8 q8) fun b s9 ⟨H9, I9, q9⟩ => ?_
      have hl : (wipe σ (own.map (·.2))).length = σ8.length := by rw [← hw8, wipe_length]
      have fin : ∀ {s' : Shared} {H' : Hp}, Inv (X.blk s3 H3 scope ce fp) ([] ++ pinsAt fp s7.heap) σ8 H' s' → Nx H' → ∃ m, m < n ∧ ∃ i H', Inv (X.blk s3 H3 scope ce fp) [] (wipe σ (own.map (·.2))) H' s' ∧ tn i s'.heap ∧ (∀ b ∈ fp, H' b = none) ∧ N i m H' := fun {s' H'} I' nx => by
        obtain ⟨m', hm, w'⟩ := hNx H' nx
        have pin' : ∀ b ∈ fp, ∀ o, s7.heap.get? b = some o → s'.heap.get? b = some o ∧ H' b = none := fun b hb o e =>
          let z := I'.pin (b, o) (List.mem_append_right _ (List.mem_append_right _ (mem_pinsAt hb e)))
          ⟨z.1, z.2.1⟩
        exact ⟨m', hm, i + 1, H', (I'.unpinned (pins := [])).weak hl (fun j v e => (wipe_some (by rw [← hw8] at e; exact e)).1), T.keep _ _ _ st7 fun b hb o e => (pin' b hb o e).1, fun b hb => let ⟨o, e, _⟩ := T.obj _ _ st7 b hb; (pin' b hb o e).2, w'⟩
      cases b with
      | false => rw [if_neg Bool.false_ne_true] at q9 ⊢; exact fin I9 q9
      | true =>
        rw [if_pos rfl] at q9 ⊢
        refine thnF (pk.run _ s9 σ8 H9 _ I9 q9) fun z s10 ⟨yk, H10, I10, r10, q10⟩ => thnF (pe.run _ s10 σ8 H10 _ I10 q10) fun z2 s11 ⟨yv, H11, I11, r11, O, kvs, kd, vd, ob, oD, vk, md, lz, fz, nx⟩ => ?_
        exact xd_lay (X := X.blk s3 H3 scope ce fp) (A := X.A) hu I11 ob oD vk r10 md lz fz r11 fun o' s12 I12 ob' => fin I12 (nx o' ob')
  exact codeAny_compStart_dict loop (T.self X.A 0 _ _ _ st4 loop)
theorem pe_dcX {kx vx tg iter : Expr} {ifs : List Expr} {scope : Scope} {own : List (Str × Nat)} {pos : Pos} {wi : TI} {g : TG} {tt : TT} {tk tv : TE} (hu : X.A.units + 10 < cLine) (hc : X.calm = true) (hN : X.N.Nodup) (hi : PI X tg iter wi) (ok : BlkOk X.N X.env.scope scope own)
    (hg : ∀ (s : Shared) (H : Hp) (C : Addr) (cl : List (Str × Addr)) (fp : List Addr), PG (X.blk s H scope (compEnvC scope cl C X.env) fp) tg g) (ht : ∀ (s : Shared) (H : Hp) (C : Addr) (cl : List (Str × Addr)) (fp : List Addr), PTs (X.blk s H scope (compEnvC scope cl C X.env) fp) ifs tt)
    (hk : ∀ (s : Shared) (H : Hp) (C : Addr) (cl : List (Str × Addr)) (fp : List Addr), PE (X.blk s H scope (compEnvC scope cl C X.env) fp) kx tk)
    (he : ∀ (s : Shared) (H : Hp) (C : Addr) (cl : List (Str × Addr)) (fp : List Addr), PE (X.blk s H scope (compEnvC scope cl C X.env) fp) vx tv) (hs : ∀ x, foldedSetIterable iter X.env x = pure x := by intro _; rfl) :
    PE X (.DictComp kx vx [⟨tg, iter, ifs, 0⟩] scope pos) (tDcX wi g tt tk tv (own.map (·.2))) := by
  refine ⟨fun pins s σ H Q I h => ?_⟩
  rw [arm_eval_DictComp]
  refine dcX_core hu hc hN I hi ok hg ht hk he hs h fun D C s' m H' I' q hn f => ⟨m, hn, fun h'' sb => ?_⟩
  obtain ⟨f0, f1, _, f3, f4, f5⟩ := f
  exact ⟨.ref D, H', I'.turned (t' := s'.toks) (fun b o hb e => (sb.2 b hb).trans e) f0 f1 f3 f4 f5, rfl, q⟩
end
section
variable {X : Cx} {G : Gm} {W : Wi} {Z Z' : Ow} {B A A1 A2 A0 : Nat → Option Addr} {σ σ1 : L2.St} {H H1 H2 H0 : Hp} {ρ ρ1 ρ2 : Ev} {Q : VK} {v : V} {r : RV}
/-- one entry more -/
def dcS (vs : List Nat) (acc : List (PyData × PyData)) : Ro RV → (Ev → Ro RV) → Option (List (PyData × PyData) × Ev)
  | .ok (.shr k) ρ3, ev => match ev ρ3 with
    | .ok (.shr x) ρ4 => if dMode acc k = true ∧ acc.length < 16777216 ∧ vs.all (wipable ρ4) = true then some (kPut acc k x, wipeE ρ4 vs) else none
    | _ => none
  | _, _ => none
def dcL (g : EvG) (t : EvT) (ek ev : EvE) (vs : List Nat) : List PyData → List (PyData × PyData) → Ev → Option (List (PyData × PyData) × Ev)
  | [], acc, ρ => some (acc, ρ)
  | d :: ds, acc, ρ => match g d ρ with
    | none => none
    | some ρ1 => match t ρ1 with
      | .ok true ρ2 => (dcS vs acc (eEsc ek ρ2) (eEsc ev)).bind fun p => dcL g t ek ev vs ds p.1 p.2
      | .ok false ρ2 => if vs.all (wipable ρ2) = true then dcL g t ek ev vs ds acc (wipeE ρ2 vs) else none
      | _ => none
def eDc (iv : EvI) (g : EvG) (t : EvT) (ek ev : EvE) (vs : List Nat) : EvE := fun ρ => (iv ρ).bind fun its ρ1 => if vs.all (wipable ρ1) = true then (match dcL g t ek ev vs its [] (wipeE ρ1 vs) with
  | some (kvs, ρ2) => .ok (.tmp (.dict kvs)) (restore ρ1 ρ2 vs)
  | none => .bad) else .bad
theorem ob_evo {D : Addr} {kvs : List (PyData × PyData)} (x : Evo A H A1 H1) (hz : ∀ i, A i ≠ some D) (h : Ob (Oo (Zx Z D) A) H D (.dict kvs)) : Ob (Oo (Zx Z D) A1) H1 D (.dict kvs) :=
  h.mono (fun a o e n => x.keep a o e fun i z => n (.inr ⟨i, z⟩)) (fun a z => z.elim (fun z => .inl (.inl z)) fun ⟨i, z⟩ => (x.sub i a z).elim (fun w => .inl (.inr w)) .inr) fun o e => x.keep D o e hz
theorem dc_ok {U : Bool} {iv : EvI} {g : EvG} {t : EvT} {ek ev : EvE} {ws vs : List Nat} (hw : ∀ i ∈ ws, i ∈ vs) (h : dE G W (eDc iv g t ek ev vs) σ H Q) : tDcX (dI G W U iv) (dG G U ws g) (dT G Wn t) (dE G Wn (eEsc ek)) (dE G Wn (eEsc ev)) vs σ H Q := by
  obtain ⟨Z, B, ρ, A, R, d⟩ := h
  refine ⟨Z, B, ρ, A, R, ?_⟩
  unfold eDc at d
  cases e : iv ρ with
  | bad => rw [e] at d; exact d.elim
  | exc y ρ1 => rw [e] at d; exact d
  | ok its ρ1 =>
    rw [e] at d
    simp only [Ro.bind] at d
    by_cases hl : vs.all (wipable ρ1) = true
    · rw [if_pos hl] at d
      intro J H1 A1 R1 x1 io
      have d1 := d.shift shift_E x1
      intro D o0 hD hdo
      have xD : Ext H1 (upd H1 D (XO o0 D)) := .new hD
      have R1D : Rep G (Zx Z D) B σ (upd H1 D (XO o0 D)) ρ1 A1 := R1.newZ xD hD (by rw [upd_same]; simp)
      obtain ⟨A2, R2, x2⟩ := R1D.wipe vs hl
      cases el : dcL g t ek ev vs its [] (wipeE ρ1 vs) with
      | none => simp only [el] at d1; exact d1.elim
      | some p =>
        obtain ⟨full, ρf⟩ := p
        simp only [el] at d1
        have x12 : Evo A1 H1 A2 (upd H1 D (XO o0 D)) := (Evo.ext xD).trans x2
        have zz : ∀ a, Zx Z D a → Z a ∨ H1 a = none := fun a z => z.elim .inl fun z => .inr (by rw [z]; exact hD)
        refine ⟨fun i m H' => i + m = its.length ∧ ∃ ρ' A' acc, Rep G (Zx Z D) B (L2.wipe σ vs) H' ρ' A' ∧ Evo A1 H1 A' H' ∧ Ob (Oo (Zx Z D) A') H' D (.dict acc) ∧ dcL g t ek ev vs (its.drop i) acc ρ' = some (full, ρf),
          ⟨its.length, by omega, _, A2, [], R2, x12, ⟨o0, [], [], upd_same, hdo, .nil, .nil⟩, el⟩, fun i m H' ⟨em, ρ', A', acc, R', x', ob, et⟩ => ?_⟩
        obtain ⟨go, stop, yld⟩ := io (Zx Z D) A' H' zz (fun a z => z.elim (R'.zin a) fun ⟨j, z⟩ => R'.ain j a z) x'
        by_cases hlt : i < its.length
        · have dr : its.drop i = its[i] :: its.drop (i + 1) := List.drop_eq_getElem_cons hlt
          rw [dr] at et
          unfold dcL at et
          refine .inr ⟨go i hlt, fun H2 => ∃ ρ' A' acc, Rep G (Zx Z D) B (L2.wipe σ vs) H2 ρ' A' ∧ Evo A1 H1 A' H2 ∧ Ob (Oo (Zx Z D) A') H2 D (.dict acc) ∧ dcL g t ek ev vs (its.drop (i + 1)) acc ρ' = some (full, ρf), fun H2 q => ⟨m - 1, by omega, by omega, q⟩, fun y H2 hy => ?_⟩
          obtain ⟨y2, c, ec, fc⟩ := yld i y H2 hlt hy
          rw [List.getElem?_eq_getElem hlt] at ec; cases ec
          cases eg : g its[i] ρ' with
          | none => simp only [eg] at et; cases et
          | some ρ2 =>
            simp only [eg] at et
            have R2' := R'.ext y2
            refine ⟨Zx Z D, B, ρ', A', its[i], ρ2, R2', fc, eg, fun σ3 A3 R3 x3 ag => ?_⟩
            have ew : L2.wipe σ3 vs = L2.wipe σ vs := (wipe_agr ag vs hw).trans (wipe_idem σ vs)
            have x03 : Evo A1 H1 A3 H2 := (x'.trans (.ext y2)).trans x3
            have nD : ∀ {A4 : Nat → Option Addr} {H4 : Hp} {ρ4 : Ev} {σ4 : L2.St}, Rep G (Zx Z D) B σ4 H4 ρ4 A4 → ∀ j, A4 j ≠ some D := fun R4 j z => R4.apart j D z (.inr rfl)
            have ob3 : Ob (Oo (Zx Z D) A3) H2 D (.dict acc) := ob_evo ((Evo.ext y2).trans x3) (nD R') ob
            refine ⟨ew, Zx Z D, B, ρ2, A3, R3, ?_⟩
            cases t2 : t ρ2 with
            | bad => simp only [t2] at et; cases et
            | exc y ρ3 => simp only [t2] at et; cases et
            | ok b ρ3 =>
              cases b with
              | false =>
                simp only [t2] at et
                intro H4 A4 R4 x4
                show if false = true then _ else _
                rw [if_neg Bool.false_ne_true]
                by_cases wq : vs.all (wipable ρ3) = true
                · rw [if_pos wq] at et
                  obtain ⟨A5, R5, x5⟩ := R4.wipe vs wq
                  rw [ew] at R5
                  exact ⟨_, A5, acc, R5, (x03.trans x4).trans x5, ob_evo (x4.trans x5) (nD R3) ob3, et⟩
                · rw [if_neg wq] at et; cases et
              | true =>
                simp only [t2] at et
                intro H4 A4 R4 x4
                show if true = true then _ else _
                rw [if_pos rfl]
                refine ⟨Zx Z D, B, ρ3, A4, R4, ?_⟩
                cases e3 : eEsc ek ρ3 with
                | bad => simp only [e3, dcS] at et; cases et
                | exc y ρ4 => simp only [e3, dcS] at et; cases et
                | ok r ρ4 =>
                  cases r with
                  | var _ => simp only [e3, dcS] at et; cases et
                  | tmp _ => simp only [e3, dcS] at et; cases et
                  | shr k =>
                    simp only [e3, dcS] at et
                    intro vk H5 A5 R5 x5 f5
                    refine ⟨Zx Z D, B, ρ4, A5, R5, ?_⟩
                    cases e4 : eEsc ev ρ4 with
                    | bad => simp only [e4] at et; cases et
                    | exc y ρ5 => simp only [e4] at et; cases et
                    | ok r ρ5 =>
                      cases r with
                      | var _ => simp only [e4] at et; cases et
                      | tmp _ => simp only [e4] at et; cases et
                      | shr x =>
                        simp only [e4] at et
                        by_cases wq : dMode acc k = true ∧ acc.length < 16777216 ∧ vs.all (wipable ρ5) = true
                        · rw [if_pos wq] at et
                          intro vx H6 A6 R6 x6 f6
                          have f5' : Fz (Oo (Zx Z D) A6) H6 vk k := x6.fz f5
                          refine ⟨Oo (Zx Z D) A6, acc, k, x, ob_evo ((x4.trans x5).trans x6) (nD R3) ob3, .inl (.inr rfl), f5'.vw, wq.1, lim_sz wq.2.1, f6, fun o' ob' => ?_⟩
                          obtain ⟨u6, e6, n6⟩ := (ob_evo ((x4.trans x5).trans x6) (nD R3) ob3).ntc
                          obtain ⟨A7, R7, x7⟩ := (R6.updZ (o := XO o' D) e6 n6).wipe vs wq.2.2
                          rw [ew] at R7
                          refine ⟨_, A7, kPut acc k x, R7, (Evo.updN hD (((x03.trans x4).trans x5).trans x6)).trans x7, ob_evo x7 (nD R6) ob', et⟩
                        · rw [if_neg wq] at et; cases et
        · refine .inl ⟨stop i (by omega), ?_⟩
          have dr : its.drop i = [] := List.drop_eq_nil_of_le (by omega)
          rw [dr] at et
          unfold dcL at et
          cases et
          exact d1 D H' A' (R1.restore R' x' zz hl) x' hD ob
    · rw [if_neg hl] at d; exact d.elim
theorem de_dc {U : Bool} {kx vx tg iter : Expr} {ifs : List Expr} {scope : Scope} {own : List (Str × Nat)} {pos : Pos} {iv : EvI} {g : EvG} {t : EvT} {ek ev : EvE} {ws : List Nat} (hu : X.A.units + 66 < cLine) (hc : X.calm = true) (hN : X.N.Nodup) (hi : DI X G W U tg iter iv) (ok : BlkOk X.N X.env.scope scope own) (hw : ∀ i ∈ ws, i ∈ own.map (·.2))
    (hg : ∀ (s : Shared) (H : Hp) (C : Addr) (cl : List (Str × Addr)) (fp : List Addr), DG (X.blk s H scope (compEnvC scope cl C X.env) fp) G U tg ws g) (ht : ∀ (s : Shared) (H : Hp) (C : Addr) (cl : List (Str × Addr)) (fp : List Addr), DTs (X.blk s H scope (compEnvC scope cl C X.env) fp) G Wn ifs t)
    (hk : ∀ (s : Shared) (H : Hp) (C : Addr) (cl : List (Str × Addr)) (fp : List Addr), DE (X.blk s H scope (compEnvC scope cl C X.env) fp) G Wn kx ek)
    (he : ∀ (s : Shared) (H : Hp) (C : Addr) (cl : List (Str × Addr)) (fp : List Addr), DE (X.blk s H scope (compEnvC scope cl C X.env) fp) G Wn vx ev) (hs : ∀ x, foldedSetIterable iter X.env x = pure x := by intro _; rfl) :
    DE X G W (.DictComp kx vx [⟨tg, iter, ifs, 0⟩] scope pos) (eDc iv g t ek ev (own.map (·.2))) :=
  ⟨PE_imp (pe_dcX (by omega) hc hN hi.pi ok (fun s H C cl fp => (hg s H C cl fp).pg) (fun s H C cl fp => (ht s H C cl fp).pt) (fun s H C cl fp => (de_esc (hk s H C cl fp)).pe) (fun s H C cl fp => (de_esc (he s H C cl fp)).pe) hs) fun σ H Q h => dc_ok hw h⟩
/-! ### d[k] += e -/
def rGetN : V → V → Hp → VK → Prop := fun x y H Q => ∃ a O kvs k d, x = V.ref a ∧ Ob O H a (.dict kvs) ∧ Vw O H y k ∧ dMode kvs k = true ∧ kAt kvs k = some d ∧ ∀ w, Fz O H w d → Q w H
theorem get_dX (hu : X.A.units + 10 < cLine) : PGet X rGetN := by
  intro pins s σ H o i ov iv Q I ro ri h
  obtain ⟨a, O, kvs, k, d, rfl, g, hk, hm, hv, q⟩ := h
  obtain rfl : ov = Value.ref a := ro
  exact xd_getItem hu I g hk ri hm hv fun w w' s' I' rw' f => ⟨w, H, I', rw', q w f⟩
def rSetN : TSet := fun x y z H Q => ∃ a O kvs k d, x = V.ref a ∧ Ob O H a (.dict kvs) ∧ O a ∧ Vw O H y k ∧ dMode kvs k = true ∧ kvs.length < sizeLine ∧ Fz O H z d ∧ ∀ o', Ob O (upd H a (XO o' a)) a (.dict (kPut kvs k d)) → Q (upd H a (XO o' a))
theorem set_dX (hu : X.A.units + 10 < cLine) : PSet X rSetN := by
  intro pins s σ H o i v ov iv u Q I ro ri rv h
  obtain ⟨a, O, kvs, k, d, rfl, g, gO, hk, hm, hz, fz, q⟩ := h
  obtain rfl : ov = Value.ref a := ro
  exact xd_setItem hu I g gO hk ri hm hz fz rv fun o' s4 I4 g4 => ⟨_, I4, q o' g4⟩
/-- behind d[k] and e -/
def augD2 (j : Nat) (f : Int → Int → Int) (m : Int) (ρ : Ev) : Option PyData → Option PyData → Option (List (PyData × PyData) × Kd) → Ro Fl
  | some k, some (.int n), some (kvs, kd) => if dMode kvs k = true ∧ kvs.length < 16777216 then .ok .nx (put ρ j (.dat (.dict (kPut kvs k (.int (f m n)))) kd)) else .bad
  | _, _, _ => .bad
def augD1 (j : Nat) (f : Int → Int → Int) (e : EvE) (k : RV) (ρ : Ev) : Option PyData → Option (List (PyData × PyData) × Kd) → Ro Fl
  | some kd, some (kvs, _) => if dMode kvs kd = true then (match kAt kvs kd with
    | some (.int m) => (e ρ).bind fun r ρ2 => augD2 j f m ρ2 (res ρ2 k) (res ρ2 r) (wrD ρ2 j)
    | _ => .bad) else .bad
  | _, _ => .bad
def sDAug (j : Nat) (f : Int → Int → Int) (ie e : EvE) : EvS := fun ρ => match wrD ρ j with
  | some _ => (ie ρ).bind fun k ρ1 => augD1 j f e k ρ1 (res ρ1 k) (wrD ρ1 j)
  | none => .bad
theorem ds_daug {j : Nat} {x : Str} {i e : Expr} {ea ei : EvE} {op : Operator} {f : Int → Int → Int} {px pt pos : Pos} (hu : X.A.units + 66 < cLine) (hv : PE X (.Name x px) (tVar j)) (hi : DE X G W i ei) (he : DE X G W e ea) (ho : PIp X op (ipI f))
    (ha : ∀ ov iv new, augStore i ov iv new = (do holding [new, ov, iv] (setItem ov iv new); release [new, ov, iv] []; pure .next) := by intros; rfl) : DS X G W (.AugAssign (.Subscript (.Name x px) i pt) op e pos) (sDAug j f ei ea) :=
  ⟨PS_imp (ps_augS hv hi.pe (get_dX (by omega)) he.pe ho (set_dX (by omega)) ha) fun D σ H ⟨Z, B, ρ, A, R, d⟩ => by
    unfold sDAug at d
    cases w0 : wrD ρ j with
    | none => rw [w0] at d; exact d.elim
    | some p0 =>
      obtain ⟨ds0, k0⟩ := p0
      rw [w0] at d
      obtain ⟨a, ha, _⟩ := R.ownD (wrD_ok w0).1 (wrD_ok w0).2
      refine ⟨_, ha, dE_S R d fun k ρ1 u H1 A1 R1 x1 f1 d1 => ?_⟩
      cases e1 : res ρ1 k with
      | none => rw [e1] at d1; exact d1.elim
      | some c1 =>
        cases w1 : wrD ρ1 j with
        | none => rw [e1, w1] at d1; exact d1.elim
        | some p1 =>
          obtain ⟨kvs, kd⟩ := p1
          rw [e1, w1] at d1
          by_cases hm : dMode kvs c1 = true
          · simp only [augD1, if_pos hm] at d1
            cases q : kAt kvs c1 with
            | none => rw [q] at d1; exact d1.elim
            | some x =>
              rw [q] at d1
              cases x with
              | int m =>
                obtain ⟨b, hb, hA, hH⟩ := R1.ownD (wrD_ok w1).1 (wrD_ok w1).2
                rw [ha] at hb; cases hb
                refine ⟨a, _, kvs, c1, .int m, rfl, hH, f1.vw R1 e1, hm, q, fun w fw => ?_⟩
                cases fw
                refine dE_S R1 d1 fun r ρ2 v H2 A2 R2 x2 f2 d2 => ?_
                cases e2 : res ρ2 k with
                | none => rw [e2] at d2; exact d2.elim
                | some c2 =>
                  cases e3 : res ρ2 r with
                  | none => rw [e2, e3] at d2; exact d2.elim
                  | some c3 =>
                    cases w2 : wrD ρ2 j with
                    | none => rw [e2, e3, w2] at d2; cases c3 <;> exact d2.elim
                    | some p2 =>
                      obtain ⟨kvs2, kd2⟩ := p2
                      rw [e2, e3, w2] at d2
                      cases c3 with
                      | int n =>
                        by_cases hm2 : dMode kvs2 c2 = true ∧ kvs2.length < 16777216
                        · simp only [augD2, if_pos hm2] at d2
                          have hn : v = .int n := f2.vw R2 e3
                          obtain ⟨b2, hb2, hA2, hH2⟩ := R2.ownD (wrD_ok w2).1 (wrD_ok w2).2
                          rw [ha] at hb2; cases hb2
                          refine ⟨m, n, rfl, hn, a, _, kvs2, c2, .int (f m n), rfl, hH2, .inr ⟨j, hA2⟩, (f1.evo x2).vw R2 e2, hm2.1, lim_sz hm2.2, .int _, fun o' g' => ?_⟩
                          obtain ⟨R4, x4⟩ := R2.writeO (wrD_ok w2).1 (wrD_ok w2).2 ha g'
                          exact d2 _ _ _ R4 x4
                        · simp only [augD2, if_neg hm2] at d2; exact d2.elim
                      | none => exact d2.elim
                      | bool _ => exact d2.elim
                      | str _ => exact d2.elim
                      | list _ => exact d2.elim
                      | tuple _ => exact d2.elim
                      | dict _ => exact d2.elim
              | none => exact d1.elim
              | bool _ => exact d1.elim
              | str _ => exact d1.elim
              | list _ => exact d1.elim
              | tuple _ => exact d1.elim
              | dict _ => exact d1.elim
          · simp only [augD1, if_neg hm] at d1; exact d1.elim⟩
end
end DL

/-! DL37: name = {k: v for ..}; a module's constants; equations -/
namespace DL
open PySem PySem.Spec PyProof.Rows L2
section
variable {X : Cx}
theorem sw_trueD {kx vx : Expr} {gs : List Comprehension} {scope : Scope} {pos py : Pos} {y : Str} {l : Nat} {env : Env} (hk : env.scope.kind = .function) (hy : env.scope.names.lookup y = some .local) (hl : (py.line == pos.line) = true)
    (ha : (scope.names.any fun (n, k) => n == y && (k == .local || k == .cell)) = false) : swapsWith (.DictComp kx vx gs scope pos) (some (.Name y py)) l env = pure true := by
  have hb : env.blockKind = .function := by unfold Env.blockKind; rw [hk]; rfl
  unfold swapsWith
  simp only [hb, show env.kindOf y = some .local from hy, ha, Expr.pos, hl]
  rfl
theorem ps_setDcX {i : Nat} {y : Str} {py : Pos} {kx vx tg iter : Expr} {ifs : List Expr} {scope : Scope} {own : List (Str × Nat)} {pos spos : Pos} {wi : TI} {g : TG} {tt : TT} {tk tv : TE} (hu : X.A.units + 10 < cLine) (hc : X.calm = true) (hN : X.N.Nodup) (hy : X.N[i]? = some y) (hyl : X.env.scope.names.lookup y = some .local)
    (hsw : swapsWith (.DictComp kx vx [⟨tg, iter, ifs, 0⟩] scope pos) (some (.Name y py)) spos.line X.env = pure true) (hi : PI X tg iter wi) (ok : BlkOk X.N X.env.scope scope own)
    (hg : ∀ (s : Shared) (H : Hp) (C : Addr) (cl : List (Str × Addr)) (fp : List Addr), PG (X.blk s H scope (compEnvC scope cl C X.env) fp) tg g) (ht : ∀ (s : Shared) (H : Hp) (C : Addr) (cl : List (Str × Addr)) (fp : List Addr), PTs (X.blk s H scope (compEnvC scope cl C X.env) fp) ifs tt)
    (hk : ∀ (s : Shared) (H : Hp) (C : Addr) (cl : List (Str × Addr)) (fp : List Addr), PE (X.blk s H scope (compEnvC scope cl C X.env) fp) kx tk)
    (he : ∀ (s : Shared) (H : Hp) (C : Addr) (cl : List (Str × Addr)) (fp : List Addr), PE (X.blk s H scope (compEnvC scope cl C X.env) fp) vx tv) (hs : ∀ x, foldedSetIterable iter X.env x = pure x := by intro _; rfl) :
    PS X (.Assign [.Name y py] (.DictComp kx vx [⟨tg, iter, ifs, 0⟩] scope pos) spos) (tAsg (tDcX wi g tt tk tv (own.map (·.2))) (gName i)) := by
  refine ⟨fun pins s σ H D I h => ?_⟩
  rw [exec_Assign_Name_used _ _ _ _ hsw]
  refine wpAny_bind (wpAny_standAt (wpAny_bind ?_))
  show wpAny _ X.A (do let _ ← comprehension (.DictComp kx vx [⟨tg, iter, ifs, 0⟩] scope pos) scope X.env (firstIterPos [⟨tg, iter, ifs, 0⟩] pos) newDict false (eval iter X.env) (some (assign (.Name y py) X.env))) _ _ s
  have h : tDcX wi g tt tk tv (own.map (·.2)) σ H (fun x H1 => gName i x σ H1 D.nx) := h
  refine wpAny_bind (thn (dcX_core (Qf := fun _ s' => SP X pins D .next s') hu hc hN I hi ok hg ht hk he hs h fun L C s' m H' I' q hn f => ?_) fun _ s' hq => wpAny_pure (wpAny_pure hq))
  obtain ⟨f0, f1, _, f3, f4, f5⟩ := f
  refine wpAny_assign_Name (store_ok2 (v := V.ref L) I' hN hy (.inl hyl) rfl (fun s2 I2 ⟨a, sb, ha⟩ => ?_) (.inr hyl))
  have haC : C ≠ a := ha.elim (fun z => by rw [z]; exact f1) fun z e => f4 y a z e.symm
  exact ⟨m, hn.sameBut sb haC, fun h3 sb3 => ⟨_, H', I2.turned (t' := s2.toks) (fun b o hb e => (sb3.2 b hb).trans e) f0 f1 f3 f4 f5, q⟩⟩
end
section
variable {X : Cx} {G : Gm} {W : Wi} {Z Z' : Ow} {B A A1 A2 A0 : Nat → Option Addr} {σ σ1 : L2.St} {H H1 H2 H0 : Hp} {ρ ρ1 ρ2 : Ev} {Q : VK} {v : V} {r : RV}
theorem ds_setDc {U : Bool} {i : Nat} {y : Str} {py : Pos} {kx vx tg iter : Expr} {ifs : List Expr} {scope : Scope} {own : List (Str × Nat)} {pos spos : Pos} {iv : EvI} {g : EvG} {t : EvT} {ek ev : EvE} {ws : List Nat} (hu : X.A.units + 66 < cLine) (hc : X.calm = true) (hN : X.N.Nodup) (hy : X.N[i]? = some y) (hyl : X.env.scope.names.lookup y = some .local)
    (hsw : swapsWith (.DictComp kx vx [⟨tg, iter, ifs, 0⟩] scope pos) (some (.Name y py)) spos.line X.env = pure true) (hi : DI X G W U tg iter iv) (ok : BlkOk X.N X.env.scope scope own) (hw : ∀ i ∈ ws, i ∈ own.map (·.2))
    (hg : ∀ (s : Shared) (H : Hp) (C : Addr) (cl : List (Str × Addr)) (fp : List Addr), DG (X.blk s H scope (compEnvC scope cl C X.env) fp) G U tg ws g) (ht : ∀ (s : Shared) (H : Hp) (C : Addr) (cl : List (Str × Addr)) (fp : List Addr), DTs (X.blk s H scope (compEnvC scope cl C X.env) fp) G Wn ifs t)
    (hk : ∀ (s : Shared) (H : Hp) (C : Addr) (cl : List (Str × Addr)) (fp : List Addr), DE (X.blk s H scope (compEnvC scope cl C X.env) fp) G Wn kx ek)
    (he : ∀ (s : Shared) (H : Hp) (C : Addr) (cl : List (Str × Addr)) (fp : List Addr), DE (X.blk s H scope (compEnvC scope cl C X.env) fp) G Wn vx ev) (hs : ∀ x, foldedSetIterable iter X.env x = pure x := by intro _; rfl) :
    DS X G W (.Assign [.Name y py] (.DictComp kx vx [⟨tg, iter, ifs, 0⟩] scope pos) spos) (sSet i (eDc iv g t ek ev (own.map (·.2)))) :=
  ⟨PS_imp (ps_setDcX (by omega) hc hN hy hyl hsw hi.pi ok (fun s H C cl fp => (hg s H C cl fp).pg) (fun s H C cl fp => (ht s H C cl fp).pt) (fun s H C cl fp => (de_esc (hk s H C cl fp)).pe) (fun s H C cl fp => (de_esc (he s H C cl fp)).pe) hs) fun D σ H ⟨Z, B, ρ, A, R, d⟩ => dc_ok hw (set_ok R d)⟩
end
/-! ### equations -/
def dcW (g : EvG) (t : EvT) (ek ev : EvE) (vs : List Nat) (its : List PyData) (acc : List (PyData × PyData)) (ρ : Ev) (Q : List (PyData × PyData) → Ev → Prop) (_ : U Q) : Prop := ∃ kvs ρ', dcL g t ek ev vs its acc ρ = some (kvs, ρ') ∧ Q kvs ρ'
theorem wp_eDc {iv : EvI} {g : EvG} {t : EvT} {ek ev : EvE} {vs : List Nat} {ρ : Ev} {Q : RV → Ev → Prop} {v : U Q} :
    Wp (eDc iv g t ek ev vs ρ) Q v = Wp (iv ρ) (fun its ρ1 => vs.all (wipable ρ1) = true ∧ dcW g t ek ev vs its [] (wipeE ρ1 vs) (fun kvs ρ2 => Q (.tmp (.dict kvs)) (restore ρ1 ρ2 vs)) ⟨⟩) ⟨⟩ := by
  refine wp_bind.trans ?_
  refine wp_cg fun its ρ1 => ?_
  rw [wp_if, wp_bad, if_F]
  congr 1
  unfold dcW
  cases dcL g t ek ev vs its [] (wipeE ρ1 vs) with
  | none => exact wp_bad.trans (propext ⟨False.elim, fun ⟨_, _, e, _⟩ => (nomatch e)⟩)
  | some p => exact wp_ok.trans (propext ⟨fun h => ⟨_, _, rfl, h⟩, fun ⟨_, _, e, h⟩ => by cases e; exact h⟩)
/-- one step: N where nothing is laid, Y where k: x is -/
def dcT (t : EvT) (ek ev : EvE) (vs : List Nat) (ρ1 : Ev) (N : Ev → Prop) (Y : PyData → PyData → Ev → Prop) : Prop :=
  Wp (t ρ1) (fun c ρ2 => if c = true then Wp (eEsc ek ρ2) (fun r ρ3 => shrW (fun k => Wp (eEsc ev ρ3) (fun r ρ4 => shrW (fun x => vs.all (wipable ρ4) = true ∧ Y k x (wipeE ρ4 vs)) r) ⟨⟩) r) ⟨⟩ else vs.all (wipable ρ2) = true ∧ N (wipeE ρ2 vs)) ⟨⟩
/-- a dict comprehension with an invariant -/
theorem dcW_inv {g : EvG} {t : EvT} {ek ev : EvE} {vs : List Nat} {Q : List (PyData × PyData) → Ev → Prop} (I : Nat → List (PyData × PyData) → Ev → Prop) (its : List PyData) {ρ : Ev} {u : U Q} {acc0 : List (PyData × PyData)} (h0 : I 0 acc0 ρ)
    (step : ∀ i d acc ρ, its[i]? = some d → I i acc ρ → gW g d ρ (fun ρ1 => dcT t ek ev vs ρ1 (I (i + 1) acc) (fun k x ρ' => (dMode acc k = true ∧ acc.length < 16777216) ∧ I (i + 1) (kPut acc k x) ρ')) ⟨⟩)
    (fin : ∀ acc ρ, I its.length acc ρ → Q acc ρ) : dcW g t ek ev vs its acc0 ρ Q u := by
  induction its generalizing I ρ acc0 with
  | nil => exact ⟨acc0, ρ, rfl, fin _ _ h0⟩
  | cons d ds ih =>
    obtain ⟨ρ1, e1, c, ρ2, e2, h⟩ := step 0 d acc0 ρ rfl h0
    have next : ∀ acc' ρ', I 1 acc' ρ' → dcW g t ek ev vs ds acc' ρ' Q ⟨⟩ := fun acc' ρ' h' => ih (fun i => I (i + 1)) h' (fun i d' acc ρ e hi => step (i + 1) d' acc ρ e hi) fin
    cases c with
    | false =>
      rw [if_neg Bool.false_ne_true] at h
      obtain ⟨kvs, ρ', e3, q⟩ := next _ _ h.2
      exact ⟨kvs, ρ', by unfold dcL; simp only [e1, e2, h.1, if_true]; exact e3, q⟩
    | true =>
      rw [if_pos rfl] at h
      obtain ⟨r, ρ3, e3, h⟩ := h
      cases r with
      | tmp _ => exact h.elim
      | var _ => exact h.elim
      | shr k =>
        obtain ⟨r, ρ4, e4, h⟩ := h
        cases r with
        | tmp _ => exact h.elim
        | var _ => exact h.elim
        | shr x =>
          obtain ⟨h1, ⟨h2, h2'⟩, h3⟩ := h
          obtain ⟨kvs, ρ', e5, q⟩ := next _ _ h3
          exact ⟨kvs, ρ', by unfold dcL; simp only [e1, e2, e3, dcS, e4, h1, h2, h2', and_self, if_true, Option.bind_some]; exact e5, q⟩
theorem sDAug_ {j : Nat} {f : Int → Int → Int} {ie e : EvE} {ρ : Ev} : sDAug j f ie e ρ = match wrD ρ j with
  | some _ => (ie ρ).bind fun k ρ1 => augD1 j f e k ρ1 (res ρ1 k) (wrD ρ1 j)
  | none => .bad := rfl
theorem wp_daug {j : Nat} {f : Int → Int → Int} {ie e : EvE} {ρ : Ev} {Q : Fl → Ev → Prop} {v : U Q} : Wp (sDAug j f ie e ρ) Q v = oW (wrD ρ j) (fun _ => Wp (ie ρ) (fun k ρ1 => Wp (augD1 j f e k ρ1 (res ρ1 k) (wrD ρ1 j)) Q ⟨⟩) ⟨⟩) ⟨⟩ := by
  rw [sDAug_]
  cases wrD ρ j with
  | none => rw [oW_none]; exact wp_bad
  | some p => rw [oW_some]; exact wp_bind
theorem wp_augD1 {j : Nat} {f : Int → Int → Int} {e : EvE} {k : RV} {ρ : Ev} {c : PyData} {kvs : List (PyData × PyData)} {kd : Kd} {Q : Fl → Ev → Prop} {v : U Q} : Wp (augD1 j f e k ρ (some c) (some (kvs, kd))) Q v =
    (dMode kvs c = true ∧ oW (asI (kAt kvs c)) (fun m => Wp (e ρ) (fun r ρ2 => Wp (augD2 j f m ρ2 (res ρ2 k) (res ρ2 r) (wrD ρ2 j)) Q ⟨⟩) ⟨⟩) ⟨⟩) := by
  show Wp (if dMode kvs c = true then (match kAt kvs c with
    | some (.int m) => (e ρ).bind fun r ρ2 => augD2 j f m ρ2 (res ρ2 k) (res ρ2 r) (wrD ρ2 j)
    | _ => .bad) else .bad) Q v = _
  rw [wp_if, wp_bad, if_F]
  congr 1
  cases kAt kvs c with
  | none => exact wp_bad.trans oW_none.symm
  | some d =>
    cases d with
    | int m => rw [asI_, oW_some]; exact wp_bind
    | _ => exact wp_bad.trans oW_none.symm
theorem augD2_ {j : Nat} {f : Int → Int → Int} {m n : Int} {ρ : Ev} {k : PyData} {kvs : List (PyData × PyData)} {kd : Kd} : augD2 j f m ρ (some k) (some (.int n)) (some (kvs, kd)) = if dMode kvs k = true ∧ kvs.length < 16777216 then .ok .nx (put ρ j (.dat (.dict (kPut kvs k (.int (f m n)))) kd)) else .bad := rfl
theorem wrD_own {ρ : Ev} {j : Nat} {kvs : List (PyData × PyData)} (h : look ρ j = .dat (.dict kvs) .own) : wrD ρ j = some (kvs, .own) := by unfold wrD; rw [h]
end DL

/-! DL38: dict(pairs) -/
namespace DL
open PySem PySem.Spec PyProof.Rows L2
def prsOf : List PyData → Option (List (PyData × PyData))
  | [] => some []
  | .tuple [k, v] :: ds => (prsOf ds).map fun r => (k, v) :: r
  | _ :: _ => none
def putAll (acc kvs : List (PyData × PyData)) : List (PyData × PyData) := kvs.foldl (fun acc p => kPut acc p.1 p.2) acc
def okKeys (kvs : List (PyData × PyData)) : Bool := (kvs.all fun p => kyI p.1) || kvs.all fun p => kyT p.1
theorem prsOf_cons {d : PyData} {ds : List PyData} {kvs : List (PyData × PyData)} (h : prsOf (d :: ds) = some kvs) : ∃ k v r, d = .tuple [k, v] ∧ prsOf ds = some r ∧ kvs = (k, v) :: r := by
  cases d with
  | tuple l =>
    match l, h with
    | [k, v], h =>
      simp only [prsOf] at h
      obtain ⟨r, h1, rfl⟩ := Option.map_eq_some_iff.mp h
      exact ⟨k, v, r, rfl, h1, rfl⟩
    | [], h => cases h
    | [_], h => cases h
    | _ :: _ :: _ :: _, h => cases h
  | none => cases h
  | bool _ => cases h
  | int _ => cases h
  | str _ => cases h
  | list _ => cases h
  | dict _ => cases h
section
variable {X : Cx} {pins : List (Addr × Obj)} {σ : L2.St} {H : Hp} {s : Shared} {O : Ow}
/-- pairs that stand in a row -/
structure PrsAt (O : Ow) (H : Hp) (h : Heap) (as : List Addr) (ks vs : List V) (pv : List (Value × Value)) (us : List Value) : Prop where
  us : us = as.map Value.ref
  len : as.length = pv.length
  at_ : ∀ (j : Nat) (a : Addr), as[j]? = some a → ∃ k v : Value, pv[j]? = some (k, v) ∧ PairAt h a k v
  ks : Vals ks (pv.map Prod.fst)
  vs : Vals vs (pv.map Prod.snd)
theorem prs_of (I : Inv X pins σ H s) : ∀ {ds : List PyData} {kvs : List (PyData × PyData)} {ys : List V} {us : List Value}, prsOf ds = some kvs → FzA O H ys ds → Vals ys us →
    ∃ as ks vs pv, PrsAt O H s.heap as ks vs pv us ∧ FzA O H ks (kvs.map Prod.fst) ∧ FzA O H vs (kvs.map Prod.snd)
  | [], _, _, _, h, f, r => by
    cases h; cases f; cases r
    exact ⟨[], [], [], [], ⟨rfl, rfl, fun j a h => by simp at h, .nil, .nil⟩, .nil, .nil⟩
  | d :: ds, _, _, _, h, f, r => by
    obtain ⟨k, v, r', rfl, h', rfl⟩ := prsOf_cons h
    cases f with
    | cons f1 f2 =>
      cases r with
      | cons r1 r2 =>
        obtain ⟨as, ks, vs, pv, P, g1, g2⟩ := prs_of I h' f2 r2
        cases f1 with
        | @tup a xs _ t n q =>
          cases (show _ = Value.ref a from r1)
          obtain ⟨o, e, hd⟩ := t
          obtain ⟨e1, _, its, rv, o2, e2, e3, m, e4⟩ := (show ObjOk X.prog X.w H s.heap a (.frz o (.tup xs)) from I.hok a _ e)
          cases q with
          | @cons kv _ _ _ q1 q2 =>
            cases q2 with
            | @cons vv _ _ _ q3 q4 =>
              cases q4
              obtain ⟨ku, vu, rfl, rk, rw'⟩ := vals2 rv
              refine ⟨a :: as, kv :: ks, vv :: vs, (ku, vu) :: pv, ⟨by rw [P.us]; rfl, by simp [P.len], fun j b hb => ?_, .cons rk P.ks, .cons rw' P.vs⟩, .cons q1 g1, .cons q3 g2⟩
              cases j with
              | zero => simp at hb; subst hb; exact ⟨ku, vu, rfl, .inl ⟨o2, e2, e3, m, e4⟩⟩
              | succ j => obtain ⟨k', v', z1, z2⟩ := P.at_ j b (by simpa using hb); exact ⟨k', v', by simpa using z1, z2⟩
/-- an entry more, whole numbers as keys -/
theorem put_I {xs : List (Int × Value)} {kvs : List (PyData × PyData)} {vs : List V} {i : Int} {d : PyData} {v : V} {r : Value} (h1 : kvs.map Prod.fst = xs.map (fun x => PyData.int x.1)) (h2 : Vals vs (xs.map (·.2))) (h3 : FzA O H vs (kvs.map Prod.snd)) (hf : Fz O H v d) (rv : RelV v r) :
    ∃ vs', Vals vs' ((stored xs i r).map (·.2)) ∧ FzA O H vs' ((kPut kvs (.int i) d).map Prod.snd) ∧ (kPut kvs (.int i) d).map Prod.fst = (stored xs i r).map (fun x => PyData.int x.1) := by
  have g := find_I (O := O) (H := H) xs kvs vs i h1 h2 h3
  cases q : kAt kvs (.int i) with
  | none =>
    have e := g.1 q
    have e2 : stored xs i r = xs ++ [(i, r)] := by
      have : (xs.any fun kv => decide (kv.1 = i)) = false := by
        unfold valueAt at e
        rw [Option.map_eq_none_iff, List.find?_eq_none] at e
        rw [List.any_eq_false]
        intro x hx
        simpa using e x hx
      unfold stored
      rw [if_neg (by rw [this]; simp)]
    have e3 : kPut kvs (.int i) d = kvs ++ [(.int i, d)] := by unfold kPut; rw [q]; rfl
    rw [e2, e3]
    refine ⟨vs ++ [v], ?_, ?_, ?_⟩
    · rw [List.map_append]; exact Vals.append h2 (.cons rv .nil)
    · rw [List.map_append]; exact h3.append (.cons hf .nil)
    · rw [List.map_append, List.map_append, h1]; rfl
  | some d0 =>
    obtain ⟨u0, w0, e, _⟩ := g.2 d0 q
    have e2 : stored xs i r = xs.map (repI i r) := by
      have : (xs.any fun kv => decide (kv.1 = i)) = true := by
        unfold valueAt at e
        obtain ⟨p, hp, _⟩ := Option.map_eq_some_iff.mp e
        rw [List.any_eq_true]
        exact ⟨p, List.mem_of_find?_eq_some hp, by have := List.find?_some hp; simpa using this⟩
      unfold stored
      rw [if_pos this]; rfl
    have e3 : kPut kvs (.int i) d = kvs.map (kRep (.int i) d) := by unfold kPut; rw [q]; rfl
    obtain ⟨vs', a1, a2, a3⟩ := rep_I (i := i) rv hf xs kvs vs h1 h2 h3
    rw [e2, e3]
    exact ⟨vs', a1, a2, a3⟩
theorem putAll_I : ∀ (more : List (PyData × PyData)) {xs : List (Int × Value)} {kvs : List (PyData × PyData)} {vs : List V} {ks2 vs2 : List V} {pv : List (Value × Value)}, kvs.map Prod.fst = xs.map (fun x => PyData.int x.1) → Vals vs (xs.map (·.2)) → FzA O H vs (kvs.map Prod.snd) →
    (more.all fun p => kyI p.1) = true → FzA O H ks2 (more.map Prod.fst) → FzA O H vs2 (more.map Prod.snd) → Vals ks2 (pv.map Prod.fst) → Vals vs2 (pv.map Prod.snd) →
    ∃ ps : List (Int × Value), ps.length = pv.length ∧ (∀ (i : Nat) (p : Value × Value), pv[i]? = some p → ∃ k t, ps[i]? = some (k, p.2) ∧ p.1 = Value.int k t) ∧ ∃ vs', Vals vs' ((merged xs ps).map (·.2)) ∧ FzA O H vs' ((putAll kvs more).map Prod.snd) ∧ (putAll kvs more).map Prod.fst = (merged xs ps).map (fun x => PyData.int x.1)
  | [], xs, kvs, vs, _, _, pv, h1, h2, h3, _, f1, _, r1, _ => by
    cases f1
    have : pv = [] := by cases pv with | nil => rfl | cons _ _ => cases r1
    subst this
    exact ⟨[], rfl, fun i p h => by simp at h, vs, h2, h3, h1⟩
  | p :: more, xs, kvs, vs, _, _, pv, h1, h2, h3, hk, f1, f2, r1, r2 => by
    rw [List.all_cons, Bool.and_eq_true] at hk
    obtain ⟨i, hi⟩ := kyI_int hk.1
    cases pv with
    | nil => cases f1; cases r1
    | cons q pv =>
      cases f1 with
      | cons f1 g1 =>
        cases f2 with
        | cons f2 g2 =>
          cases r1 with
          | cons r1 s1 =>
            cases r2 with
            | cons r2 s2 =>
              rw [hi] at f1
              cases f1
              obtain ⟨t, et⟩ := r1
              obtain ⟨vs', a1, a2, a3⟩ := put_I (i := i) h1 h2 h3 f2 r2
              obtain ⟨ps, b1, b2, vs'', b3, b4, b5⟩ := putAll_I more a3 a1 a2 hk.2 g1 g2 s1 s2
              refine ⟨(i, q.2) :: ps, by simp [b1], fun j p' hj => ?_, vs'', b3, ?_, ?_⟩
              · cases j with
                | zero => simp at hj; subst hj; exact ⟨i, t, rfl, et⟩
                | succ j => obtain ⟨k, t, z1, z2⟩ := b2 j p' (by simpa using hj); exact ⟨k, t, by simpa using z1, z2⟩
              · show FzA O H vs'' ((putAll (kPut kvs p.1 p.2) more).map Prod.snd)
                rw [hi]; exact b4
              · show (putAll (kPut kvs p.1 p.2) more).map Prod.fst = _
                rw [hi]; exact b5
def rDictP (K : PySem.W.Frag) : List V → Hp → VK → Prop := fun xs H Q => ∃ (p : Addr) (O : Ow) (ys : List V) (ds : List PyData) (kvs : List (PyData × PyData)), xs = [V.ref p] ∧ (SqL K H p ys ∨ TrT H p ys) ∧ FzA O H ys ds ∧ (∀ b, O b → H b ≠ none) ∧ prsOf ds = some kvs ∧ (kvs.all fun p => kyI p.1) = true ∧
  ∀ q o ks vs, H q = none → DObj o ks vs ((putAll [] kvs).map Prod.fst) → FzA O H ks ((putAll [] kvs).map Prod.fst) → FzA O H vs ((putAll [] kvs).map Prod.snd) → Q (.ref q) (upd H q (XO o q))
theorem cr_dictP (hc : X.calm = true) : CallR X (.type "dict") (rDictP X.K) := by
  intro pins s σ H xs us Q I rx h
  obtain ⟨p, O, ys, ds, kvs, rfl, hs, f, hO, hp, hk, q⟩ := h
  rw [Vals.ref1 rx]
  have fin : ∀ (T : String) (its : List Value), (T = "list" ∨ T = "tuple") → Vals ys its → PySem.PlainSeq T s.heap p its.toArray → ys.length ≤ sizeLine → wpAny (model X.prog X.w) X.A (call (.type "dict") [.ref p]) (EP X pins σ Q) X.xe s := by
    intro T its hT rv pl hz
    obtain ⟨as, ks, vs, pv, P, fk, fv⟩ := prs_of I hp f rv
    obtain ⟨ps, b1, b2, vs', b3, b4, b5⟩ := putAll_I (O := O) (H := H) kvs (xs := []) (kvs := []) (vs := []) rfl .nil .nil hk fk fv P.ks P.vs
    have hl : ys.length = pv.length := by rw [rv.length, P.us, List.length_map, P.len]
    have ok : PySem.PlainSeq T s.heap p its.toArray ∧ PairItems s.heap its.toArray (fun j => as.getD j 0) pv := ⟨pl, by simp [← rv.length, hl], fun j k v hj => by
      have hja : j < as.length := by rw [P.len]; exact (List.getElem?_eq_some_iff.mp hj).1
      obtain ⟨k', v', e1, e2⟩ := P.at_ j as[j] (List.getElem?_eq_getElem hja)
      rw [hj] at e1; cases e1
      have e3 : as.getD j 0 = as[j] := by rw [List.getD_eq_getElem?_getD, List.getElem?_eq_getElem hja]; rfl
      show its.toArray[j]? = some (Value.ref (as.getD j 0)) ∧ PairAt s.heap (as.getD j 0) k v
      rw [e3]
      exact ⟨by simp [P.us, hja], e2⟩⟩
    have hh : PairsHave (PySem.intKind X.prog X.w) pv.length (PairRel pv) ps := ⟨b1, fun i key v hr => by
      obtain ⟨k, t, z1, z2⟩ := b2 i (key, v) hr
      exact ⟨k, z1, by rw [show key = Value.int k t from z2]; exact intKind_is _ _ _ _⟩⟩
    have go : ∀ h' tk, h'.DictOf (PySem.intKind X.prog X.w) s.heap.objs.size (merged [] ps) → (∀ b o, b ∉ ([] : List Addr) → s.heap.get? b = some o → h'.get? b = some o) → EP X pins σ Q (.ref s.heap.objs.size) { s with heap := h', toks := tk } := fun h' tk hd hk' => by
      have ml : (merged ([] : List (Int × Value)) ps).length ≤ sizeLine := by have := merged_length_le ([] : List (Int × Value)) ps; simp at this; omega
      obtain ⟨o', ho', hd'⟩ := dobj_I hd ml b3
      have n : H s.heap.objs.size = none := I.hok.fresh (Nat.le_refl _)
      have kf : ∀ l : List (Int × Value), FzA O H (l.map fun x => V.int x.1) (l.map fun x => PyData.int x.1) := fun l => by
        induction l with
        | nil => exact .nil
        | cons x l ih => exact .cons (.int _) ih
      exact ⟨.ref s.heap.objs.size, _, I.laid (t' := tk) (fun b o e => hk' b o (by simp) e) (Nat.le_refl _) (xo_ok ho' I.big), rfl, q _ o' _ vs' n (by rw [b5]; exact hd') (by rw [b5]; exact kf _) b4⟩
    rcases hT with rfl | rfl
    · exact call_dict_pairs (PairArg.list p its.toArray (fun j => as.getD j 0) pv) (I.ok.hd hc) ok hh (by omega) go
    · exact call_dict_pairs (PairArg.tuple p its.toArray (fun j => as.getD j 0) pv) (I.ok.hd hc) ok hh (by omega) go
  rcases hs with hs | ⟨o, e, hd⟩
  · obtain ⟨its, rv, ⟨o, n, ho, hc', hd, hda⟩, hz⟩ := I.list hs
    exact fin "list" its (.inl rfl) rv ⟨o, n, ho, hc', hd, hda⟩ hz
  · obtain ⟨e1, hz, its, rv, o2, e2, e3, m, e4⟩ := (show ObjOk X.prog X.w H s.heap p (.frz o (.tup ys)) from I.hok p _ e)
    rw [e1] at e2; cases e2
    exact fin "tuple" its (.inr rfl) rv ⟨o, m, e1, e3, hd, e4⟩ hz
end
section
variable {X : Cx} {G : Gm} {W : Wi} {Z Z' : Ow} {B A A1 A2 A0 : Nat → Option Addr} {σ σ1 : L2.St} {H H1 H2 H0 : Hp} {ρ ρ1 ρ2 : Ev} {Q : VK} {v : V} {r : RV}
def asPs : PyData → Option (List PyData)
  | .list ds => some ds
  | .tuple ds => some ds
  | _ => none
def dctR (ρ : Ev) : Option (List (PyData × PyData)) → Ro RV
  | some kvs => if (kvs.all fun p => kyI p.1) = true then .ok (.tmp (.dict (putAll [] kvs))) ρ else .bad
  | none => .bad
/-- dict(pairs) -/
def eDictP (a : EvE) : EvE := fun ρ => (a ρ).bind fun r ρ1 => dctR ρ1 (((res ρ1 r).bind asPs).bind prsOf)
theorem de_dictP {p pos : Pos} {e : Expr} {ea : EvE} (hc : X.calm = true) (hg : Gl X "dict") (hm : X.mg "dict" = none) (hv : bootBuiltins "dict" = some (.type "dict")) (ha : DE X G W e ea) (hs : starEach [e] X.env = (false, eval e X.env) :: starEach [] X.env := by rfl) (hpl : (backTo pos (starEach [] X.env)).any (·.1) = false := by rfl) :
    DE X G W (.Call (.Name "dict" p) [e] [] pos) (eDictP ea) :=
  ⟨PE_imp (pe_callTy (cr_dictP hc) hg hm hv (pa_cons ha.pe pa_nil hs) (by decide) (by decide) hs hpl) fun σ H Q ⟨Z, B, ρ, A, R, d⟩ => by
    refine dE_bind shift_E R d fun r1 ρ1 v H1 A1 R1 x1 f1 d1 => ?_
    cases e1 : (res ρ1 r1).bind asPs with
    | none => rw [e1] at d1; exact d1.elim
    | some ds =>
      rw [e1] at d1
      obtain ⟨dx, e2, e3⟩ := Option.bind_eq_some_iff.mp e1
      have fv := f1.vw R1 e2
      cases e4 : prsOf ds with
      | none => rw [Option.bind_some, e4] at d1; exact d1.elim
      | some kvs =>
        rw [Option.bind_some, e4] at d1
        by_cases hk : (kvs.all fun p => kyI p.1) = true
        · simp only [dctR, if_pos hk] at d1
          have fin : ∀ {p : Addr} {ys : List V}, (SqL X.K H1 p ys ∨ TrT H1 p ys) → FzA (Oo Z A1) H1 ys ds → rDictP X.K [V.ref p] H1 Q := fun {p ys} hs f =>
            ⟨p, _, ys, ds, kvs, rfl, hs, f, R1.oin, e4, hk, fun q o ks vs n hd fk fv => d1 _ _ A1 (R1.newZ (.new n) n (by rw [upd_same]; simp)) (.ext (.new n)) n ⟨o, ks, vs, upd_same, hd, fk.mono (Ext.new n).kp (fun b z => z.elim (fun z => z.elim (fun z => .inl (.inl z)) fun z => .inr (by rw [z]; exact n)) fun z => .inl (.inr z)) _, fv.mono (Ext.new n).kp (fun b z => z.elim (fun z => z.elim (fun z => .inl (.inl z)) fun z => .inr (by rw [z]; exact n)) fun z => .inl (.inr z)) _⟩⟩
          cases dx with
          | list l => cases e3; obtain ⟨p, ys, rfl, g1, g2⟩ := fv; exact fin (.inl (.of g1)) g2
          | tuple l => cases e3; obtain ⟨p, ys, rfl, g1, _, g2⟩ := fv; exact fin (.inr g1) g2
          | none => cases e3
          | bool _ => cases e3
          | int _ => cases e3
          | str _ => cases e3
          | dict _ => cases e3
        · simp only [dctR, if_neg hk] at d1; exact d1.elim⟩
end
theorem eDictP_ {a : EvE} {ρ : Ev} : eDictP a ρ = (a ρ).bind fun r ρ1 => dctR ρ1 (((res ρ1 r).bind asPs).bind prsOf) := rfl
theorem asPs_l {ds : List PyData} : asPs (.list ds) = some ds := rfl
theorem asPs_t {ds : List PyData} : asPs (.tuple ds) = some ds := rfl
theorem dctR_ {ρ : Ev} {kvs : List (PyData × PyData)} : dctR ρ (some kvs) = if (kvs.all fun p => kyI p.1) = true then .ok (.tmp (.dict (putAll [] kvs))) ρ else .bad := rfl
end DL

/-! DL39: len(d) -/
namespace DL
open PySem PySem.Spec PyProof.Rows L2
section
variable {prog : Program} {w : World} {A : Around} {E : Value → Shared → Prop} {s : Shared} {d : Addr} {es : Array DictEntry} {ep : Nat}
theorem len_body_raw {Q : Value → Shared → Prop} (hd : (d == sysModules) = false) (hm : s.heap.DictRaw d es ep) (hfit : (es.size : Int) < 2 ^ 63)
    (h : Q (.int es.size (s.toks + 1)) { s with toks := s.toks + 1 + 1 }) : wpAny (model prog w) A (Builtin.«len» ⟨[.ref d], []⟩) (fun fin s' => ∃ r, fin = .done (.ret r) ∧ Q r s') E s := by
  unfold Builtin.«len»
  refine wpAny_bind (m := oneArg "len" _) (wpAny_pure ?_)
  refine wpAny_bind (m := callSpecial? (.ref d) (Str.ofString "__len__")) (wpAny_callSpecial?_slot (name := Str.ofString "__len__") hm.typeIs F.slot_dict_len
    (call_len_raw hd hm ?_))
  show wpAny _ _ _ _ _ { s with toks := s.toks + 1 }
  refine wpAny_bind (wpAny_holding (wpAny_pure ?_))
  refine wpAny_bind (wpAny_letGo ?_)
  show wpAny _ _ (if ((es.size : Nat) : Int) < 0 then _ else _) _ _ _
  rw [if_neg (by omega)]
  show wpAny _ _ (if ((es.size : Nat) : Int) ≥ 2 ^ 63 then _ else _) _ _ _
  rw [if_neg (by omega)]
  exact wpAny_bind (wpAny_mkInt (wpAny_pure ⟨_, rfl, h⟩))
theorem len_raw {Q : Value → Shared → Prop} (hd : (d == sysModules) = false) (hm : s.heap.DictRaw d es ep) (hfit : (es.size : Int) < 2 ^ 63)
    (h : Q (.int es.size (s.toks + 1)) { s with toks := s.toks + 1 + 1 }) : wpAny (model prog w) A (call (.builtin "len") [.ref d]) Q E s :=
  Calls.call_function_entry kind_len plain_len entry_len (args_len1 _) (len_body_raw hd hm hfit h)
end
section
variable {X : Cx} {H : Hp}
def rLenD : List V → Hp → VK → Prop := fun xs H Q => ∃ (O : Ow) (a : Addr) (kvs : List (PyData × PyData)), xs = [V.ref a] ∧ Ob O H a (.dict kvs) ∧ Q (.int ((kvs.length : Nat) : Int)) H
theorem cr_lenD : CallR X (.builtin "len") rLenD := by
  intro pins s σ H xs us Q I r h
  obtain ⟨O, a, kvs, rfl, ho, q⟩ := h
  obtain ⟨u, rfl, rx⟩ := vals1 r
  cases (show u = Value.ref a from rx)
  obtain ⟨o, es, ep, ks, vs, _, _, _, hm, hz, hn, hns, _, _, _, _⟩ := ob_raw I ho
  refine len_raw hns hm (by rw [sizeLine_eq] at hz; omega) ?_
  rw [hn]
  exact ⟨.int _, H, I.tok _, ⟨_, rfl⟩, q⟩
def gLenD : GN
  | [.dict kvs] => .val (.int ((kvs.length : Nat) : Int))
  | _ => .bad
theorem call_lenDS : CallS rLenD gLenD := by
  intro O H xs ds Q hO hv h
  match ds, hv, h with
  | [.dict kvs], hv, h =>
    obtain ⟨x, rfl, a, o, ks, vs, rfl, h1, h2, h3, h4⟩ := hv.one
    exact ⟨O, a, kvs, rfl, ⟨o, ks, vs, h1, h2, h3, h4⟩, h _ H (.refl _) (.int _)⟩
  | [], _, h => exact h.elim
  | [.none], _, h => exact h.elim
  | [.bool _], _, h => exact h.elim
  | [.int _], _, h => exact h.elim
  | [.str _], _, h => exact h.elim
  | [.list _], _, h => exact h.elim
  | [.tuple _], _, h => exact h.elim
  | d :: _ :: _, _, h => cases d <;> exact h.elim
theorem gLenD_ {kvs : List (PyData × PyData)} : gLenD [.dict kvs] = .val (.int ((kvs.length : Nat) : Int)) := rfl
end
end DL

/-! DL40: sorted(set(t)), t a tuple of whole numbers -/
namespace DL
open PySem PySem.Spec PyProof.Rows L2
def nubI : List Int → List Int
  | [] => []
  | x :: r => if x ∈ nubI r then nubI r else x :: nubI r
theorem nubI_mem {y : Int} : ∀ {l : List Int}, y ∈ nubI l ↔ y ∈ l
  | [] => Iff.rfl
  | x :: r => by
    rw [nubI]
    split
    · rename_i h
      rw [nubI_mem, List.mem_cons]
      exact ⟨.inr, fun z => z.elim (fun e => by rw [e]; exact nubI_mem.mp h) id⟩
    · rw [List.mem_cons, List.mem_cons, nubI_mem]
theorem nubI_nodup : ∀ l : List Int, (nubI l).Nodup
  | [] => .nil
  | x :: r => by
    rw [nubI]
    split
    · exact nubI_nodup r
    · rename_i h
      exact List.nodup_cons.mpr ⟨h, nubI_nodup r⟩
/-- each once, in order -/
def ascI (l : List Int) : List Int := sortI (nubI l)
theorem ascI_mem {l : List Int} {y : Int} : y ∈ ascI l ↔ y ∈ l := (sortI_perm _).mem_iff.trans nubI_mem
theorem perm_mem {l m : List Int} (h1 : l.Nodup) (h2 : m.Nodup) (h : ∀ x, x ∈ l ↔ x ∈ m) : l.Perm m := by
  refine List.perm_iff_count.mpr fun a => ?_
  have c1 := List.nodup_iff_count.mp h1 a
  have c2 := List.nodup_iff_count.mp h2 a
  by_cases ha : a ∈ l
  · have := List.count_pos_iff.mpr ha
    have := List.count_pos_iff.mpr ((h a).mp ha)
    omega
  · rw [List.count_eq_zero.mpr ha, List.count_eq_zero.mpr fun z => ha ((h a).mpr z)]
theorem ascI_eq {l m : List Int} (h : m.Pairwise (· < ·)) (g : ∀ k, k ∈ m ↔ k ∈ l) : ascI l = m :=
  sortI_eq (perm_mem (h.imp fun h e => by omega) (nubI_nodup l) fun x => (g x).trans nubI_mem.symm) (h.imp fun h => Int.le_of_lt h)
theorem ascI_self {m : List Int} (h : m.Pairwise (· < ·)) : ascI m = m := ascI_eq h fun _ => Iff.rfl
def gSortSet : G1
  | .tuple ds => intPR (fun ns => if ns.length < 64 then .new (iL (ascI ns)) else .bad) (intsIn ds)
  | _ => .bad
section
variable {X : Cx} {G : Gm} {W : Wi} {Z Z' : Ow} {B A A1 A2 A0 : Nat → Option Addr} {σ σ1 : L2.St} {H H1 H2 H0 : Hp} {ρ ρ1 ρ2 : Ev} {Q : VK} {v : V} {r : RV}
def tSortSet (K : PySem.W.Frag) (ta : TE) : TE := fun σ H Q => ta σ H fun x H1 => ∃ (l : Addr) (ns : List Int), x = V.ref l ∧ SqT K H1 l (ns.map V.int) ∧ ns.length < 64 ∧ ∀ p, H1 p = none → Q (.ref p) (upd H1 p (.lst ((ascI ns).map V.int)))
theorem pe_sortSet {a : Expr} {ta : TE} {p p2 q pos : Pos} (hc : X.calm = true) (hg : Gl X "sorted") (hm : X.mg "sorted" = none) (hg2 : Gl X "set") (hm2 : X.mg "set" = none) (ha : PE X a ta)
    (na : starEach [a] X.env = (false, eval a X.env) :: starEach [] X.env := by rfl) : PE X (.Call (.Name "sorted" p) [.Call (.Name "set" p2) [a] [] q] [] pos) (tSortSet X.K ta) := by
  refine ⟨fun pins s σ H Q I h => ?_⟩
  refine Call_ (ld_blt I hg hm (show bootBuiltins "sorted" = some (.builtin "sorted") by decide +kernel) ?_)
  refine PyProof.Rows.callWith_builtin1 (PyProof.Rows.args_cons ?_ rfl) rfl rfl
  refine Call_ (ld_blt I hg2 hm2 PyProof.Rows.boot_set ?_)
  refine PyProof.Rows.callWith_type1 (PyProof.Rows.args_cons (thn (ha.run pins s σ H _ I h) fun v s1 ⟨x, H1, I1, r1, q1⟩ => PyProof.Rows.args_nil ?_) na) na rfl
  obtain ⟨l, ns, rfl, hq, h64, q1⟩ := q1
  cases r1
  obtain ⟨its, r, pl, hz⟩ := I1.tuple hq
  have hl : its.length = ns.length := by rw [← r.length, List.length_map]
  refine call_set_tupI (w := X.w) ns (I1.ok.hd hc) pl (by simpa using r.ints) (by unfold scanBound; omega) fun h' tk c R cl hk => ?_
  have I2 : Inv X pins σ H1 { s1 with heap := h', toks := tk } := I1.kept hk
  refine PyProof.Rows.args_nil ?_
  have R : SetR X.w ({ s1 with heap := h', toks := tk } : Shared).heap s1.heap.objs.size (fun j => decide (j ∈ ns)) c := R
  revert R I2
  generalize ({ s1 with heap := h', toks := tk } : Shared) = s2
  intro I2 R
  refine sorted_set R (I2.ok.hd hc) (by omega) fun s' p out c' ks k g o hp hgt hi hs hmm hln => ?_
  have e : ascI ns = ks := ascI_eq hs fun z => by rw [hmm z, decide_eq_true_eq]
  have hlen : (ks.map V.int).length ≤ sizeLine := by rw [List.length_map, hln, sizeLine_eq]; omega
  have hn : H1 p = none := I2.hok.fresh hp
  have J : Inv X pins σ (upd H1 p (.lst (ks.map V.int))) { s2 with heap := s'.heap, gens := s'.gens, drawn := s'.drawn, toks := s'.toks } :=
    I2.call (ch := []) (Un.laid k hp hn) (I2.hok.laid k hp ⟨hlen, out.toList, c', vals_of_ints hi, hgt⟩) (by rw [g]; exact I2.bare) (fun _ z => nomatch z)
  have e2 : s' = { s2 with heap := s'.heap, gens := s'.gens, drawn := s'.drawn, toks := s'.toks } := by
    cases s'
    cases s2
    cases o
    rfl
  have q2 := q1 p hn
  rw [e] at q2
  rw [e2]
  exact ⟨.ref p, _, J, rfl, q2⟩
theorem de_sortSet {a : Expr} {ea : EvE} {p p2 q pos : Pos} (hc : X.calm = true) (hg : Gl X "sorted") (hm : X.mg "sorted" = none) (hg2 : Gl X "set") (hm2 : X.mg "set" = none) (ha : DE X G W a ea)
    (na : starEach [a] X.env = (false, eval a X.env) :: starEach [] X.env := by rfl) : DE X G W (.Call (.Name "sorted" p) [.Call (.Name "set" p2) [a] [] q] [] pos) (eUn gSortSet ea) :=
  ⟨PE_imp (pe_sortSet hc hg hm hg2 hm2 ha.pe na) fun σ H Q ⟨Z, B, ρ, A, R, d⟩ => by
    refine dE_bind shift_E R d fun r1 ρ1 v H1 A1 R1 x1 f1 d1 => ?_
    unfold p1 at d1
    cases e1 : res ρ1 r1 with
    | none => rw [e1] at d1; exact d1.elim
    | some dx =>
      rw [e1] at d1
      cases dx with
      | tuple ds =>
        cases q : intsIn ds with
        | none => simp only [gSortSet, q] at d1; exact d1.elim
        | some ns =>
          simp only [gSortSet, q, intPR] at d1
          by_cases hz : ns.length < 64
          · simp only [if_pos hz] at d1
            obtain ⟨b, xs, rfl, e, _, f⟩ := f1.vw R1 e1
            have := ints_fz q f
            subst this
            exact ⟨b, ns, rfl, e.sq, hz, fun p np => prs_fin R1 d1 p _ H1 _ (.refl _) np (.new np) upd_same (fz_ints _)⟩
          · simp only [if_neg hz] at d1; exact d1.elim
      | _ => exact d1.elim⟩
theorem o_sortSet {ds : List PyData} : gSortSet (.tuple ds) = intPR (fun ns => if ns.length < 64 then .new (iL (ascI ns)) else .bad) (intsIn ds) := rfl
end
end DL

/-! DL41: x is True, x is not True, for truth values -/
namespace DL
open PySem PySem.Spec PyProof.Rows L2
section
variable {X : Cx} {H : Hp}
def rIsB (neg : Bool) : V → V → Hp → VK → Prop := fun x y H Q => ∃ a b : Bool, x = .bl a ∧ y = .bl b ∧ Q (.bl (xor neg (decide (a = b)))) H
theorem op_isB : OpR X (compareOp .Is) (rIsB false) := by
  intro pins s σ H x y v u Q I rx ry h
  obtain ⟨a, b, rfl, rfl, q⟩ := h
  cases (show v = Value.bool a from rx)
  cases (show u = Value.bool b from ry)
  by_cases e : a = b
  · subst e
    exact wpAny_is_self rfl ⟨.bl true, H, I, rfl, by simpa using q⟩
  · exact wpAny_is_other rfl (fun z => e (Value.bool.inj z)) ⟨.bl false, H, I, rfl, by simpa [e] using q⟩
theorem op_isNotB : OpR X (compareOp .IsNot) (rIsB true) := by
  intro pins s σ H x y v u Q I rx ry h
  obtain ⟨a, b, rfl, rfl, q⟩ := h
  cases (show v = Value.bool a from rx)
  cases (show u = Value.bool b from ry)
  by_cases e : a = b
  · subst e
    exact wpAny_isNot_self rfl ⟨.bl false, H, I, rfl, by simpa using q⟩
  · exact wpAny_isNot_other rfl (fun z => e (Value.bool.inj z)) ⟨.bl true, H, I, rfl, by simpa [e] using q⟩
def gIsB (neg : Bool) : G2 := fun x y => match x with
  | .bool a => (match y with
    | .bool b => .val (.bool (xor neg (decide (a = b))))
    | _ => .bad)
  | _ => .bad
theorem op_isBS (neg : Bool) : Op2S (rIsB neg) (gIsB neg) := by
  intro O H x y dx dy Q hO hx hy h
  cases dx <;> try exact False.elim h
  cases dy <;> try exact False.elim h
  rename_i a b
  exact ⟨a, b, hx, hy, h _ H (.refl _) (.bl _)⟩
theorem o_isTrue {a : Bool} : gIsB false (.bool a) (.bool true) = .val (.bool a) := by cases a <;> rfl
theorem o_isFalse {a : Bool} : gIsB false (.bool a) (.bool false) = .val (.bool (!a)) := by cases a <;> rfl
theorem o_nTrue {a : Bool} : gIsB true (.bool a) (.bool true) = .val (.bool (!a)) := by cases a <;> rfl
theorem o_nFalse {a : Bool} : gIsB true (.bool a) (.bool false) = .val (.bool a) := by cases a <;> rfl
end
end DL

/-! DL42: dict(pairs) whose keys are tuples -/
namespace DL
open PySem PySem.Spec PyProof.Rows L2
section
variable {X : Cx} {pins : List (Addr × Obj)} {σ : L2.St} {H : Hp} {s : Shared} {O : Ow}
structure RT (O : Ow) (H : Hp) (kvs : List (PyData × PyData)) (xs : List (NestedKey × Addr × Value)) (vs : List V) : Prop where
  a : kvs.map (fun p => nkD p.1) = xs.map (fun x => some x.1)
  b : Vals vs (xs.map (·.2.2))
  c : FzA O H vs (kvs.map Prod.snd)
  d : FzA O H (xs.map fun x => V.ref x.2.1) (kvs.map Prod.fst)
theorem put_T {kvs : List (PyData × PyData)} {xs : List (NestedKey × Addr × Value)} {vs : List V} {k d : PyData} {ks : List NestedKey} {b : Addr} {v : V} {r : Value} (D : RT O H kvs xs vs) (hn : nkD k = some (.tup ks)) (f : Fz O H (V.ref b) k) (rv : RelV v r) (hf : Fz O H v d) :
    ∃ vs', RT O H (kPut kvs k d) (storedH xs (.tup ks) b r) vs' := by
  have g := find_T xs kvs vs k (.tup ks) D.a D.b D.c hn
  cases q : kAt kvs k with
  | none =>
    have e := g.1 q
    have e2 := storedH_new e b r
    have e3 : kPut kvs k d = kvs ++ [(k, d)] := by unfold kPut; rw [q]; rfl
    rw [e2, e3]
    refine ⟨vs ++ [v], ?_, ?_, ?_, ?_⟩
    · rw [List.map_append, List.map_append, D.a]
      show _ ++ [nkD k] = _ ++ [some (NestedKey.tup ks)]
      rw [hn]
    · rw [List.map_append]; exact Vals.append D.b (.cons rv .nil)
    · rw [List.map_append]; exact D.c.append (.cons hf .nil)
    · rw [List.map_append, List.map_append]; exact D.d.append (.cons f .nil)
  | some d0 =>
    obtain ⟨p, w0, e, _⟩ := g.2 d0 q
    have e2 : storedH xs (.tup ks) b r = xs.map (putAt (.tup ks) r) := by unfold storedH; rw [e]; rfl
    have e3 : kPut kvs k d = kvs.map (kRep k d) := by unfold kPut; rw [q]; rfl
    obtain ⟨vs', a1, a2, a3, a4⟩ := rep_T hn rv hf xs kvs vs D.a D.b D.c D.d
    rw [e2, e3]
    exact ⟨vs', a4, a1, a2, a3⟩
theorem putAll_T : ∀ (more : List (PyData × PyData)) {xs : List (NestedKey × Addr × Value)} {kvs : List (PyData × PyData)} {vs : List V} {ks2 vs2 : List V} {pv : List (Value × Value)}, RT O H kvs xs vs →
    (more.all fun p => kyT p.1) = true → FzA O H ks2 (more.map Prod.fst) → FzA O H vs2 (more.map Prod.snd) → Vals ks2 (pv.map Prod.fst) → Vals vs2 (pv.map Prod.snd) →
    ∃ ps : List (NestedKey × Addr × Value), ps.length = pv.length ∧ (∀ (i : Nat) (p : Value × Value), pv[i]? = some p → ∃ k b, ps[i]? = some (k, b, p.2) ∧ p.1 = Value.ref b) ∧ (∀ x ∈ ps, ∃ k, nkD k = some x.1 ∧ x.1.depth ≤ 8 ∧ Fz O H (V.ref x.2.1) k) ∧ ∃ vs', RT O H (putAll kvs more) (storedAllH xs ps) vs'
  | [], xs, kvs, vs, _, _, pv, D, _, f1, _, r1, _ => by
    cases f1
    have : pv = [] := by cases pv with | nil => rfl | cons _ _ => cases r1
    subst this
    exact ⟨[], rfl, fun i p h => by simp at h, fun _ h => (nomatch h), vs, D⟩
  | p :: more, xs, kvs, vs, _, _, pv, D, hk, f1, f2, r1, r2 => by
    rw [List.all_cons, Bool.and_eq_true] at hk
    obtain ⟨ks, hn, hd⟩ := kyT_some hk.1
    cases pv with
    | nil => cases f1; cases r1
    | cons q pv =>
      cases f1 with
      | cons f1 g1 =>
        cases f2 with
        | cons f2 g2 =>
          cases r1 with
          | cons r1 s1 =>
            cases r2 with
            | cons r2 s2 =>
              obtain ⟨b, rfl⟩ := kyT_ref f1 hk.1
              have eb : q.1 = Value.ref b := r1
              obtain ⟨vs', D'⟩ := put_T D hn f1 r2 f2
              obtain ⟨ps, b1, b2, b3, vs'', b4⟩ := putAll_T more D' hk.2 g1 g2 s1 s2
              refine ⟨(.tup ks, b, q.2) :: ps, by simp [b1], fun j p' hj => ?_, fun x hx => ?_, vs'', b4⟩
              · cases j with
                | zero => simp at hj; subst hj; exact ⟨_, b, rfl, eb⟩
                | succ j => obtain ⟨k, t, z1, z2⟩ := b2 j p' (by simpa using hj); exact ⟨k, t, by simpa using z1, z2⟩
              · rcases List.mem_cons.mp hx with rfl | hx
                · exact ⟨p.1, hn, hd, f1⟩
                · exact b3 x hx
def rDictT (K : PySem.W.Frag) : List V → Hp → VK → Prop := fun xs H Q => ∃ (p : Addr) (O : Ow) (ys : List V) (ds : List PyData) (kvs : List (PyData × PyData)), xs = [V.ref p] ∧ (SqL K H p ys ∨ TrT H p ys) ∧ FzA O H ys ds ∧ (∀ b, O b → H b ≠ none) ∧ prsOf ds = some kvs ∧ (kvs.all fun p => kyT p.1) = true ∧ ((putAll [] kvs).all fun p => kyT p.1) = true ∧
  ∀ q o ks vs, H q = none → DObj o ks vs ((putAll [] kvs).map Prod.fst) → FzA O H ks ((putAll [] kvs).map Prod.fst) → FzA O H vs ((putAll [] kvs).map Prod.snd) → Q (.ref q) (upd H q (XO o q))
theorem cr_dictT (hc : X.calm = true) (hu : X.A.units + 66 < cLine) : CallR X (.type "dict") (rDictT X.K) := by
  intro pins s σ H xs us Q I rx h
  obtain ⟨p, O, ys, ds, kvs, rfl, hs, f, hO, hp, hk, hk2, q⟩ := h
  rw [Vals.ref1 rx]
  have fin : ∀ (T : String) (its : List Value), (T = "list" ∨ T = "tuple") → Vals ys its → PySem.PlainSeq T s.heap p its.toArray → ys.length ≤ sizeLine → wpAny (model X.prog X.w) X.A (call (.type "dict") [.ref p]) (EP X pins σ Q) X.xe s := by
    intro T its hT rv pl hz
    obtain ⟨as, ks, vs, pv, P, fk, fv⟩ := prs_of I hp f rv
    obtain ⟨ps, b1, b2, b3, vs', D⟩ := putAll_T (O := O) (H := H) kvs (xs := []) (kvs := []) (vs := []) ⟨rfl, .nil, .nil, .nil⟩ hk fk fv P.ks P.vs
    have hl : ys.length = pv.length := by rw [rv.length, P.us, List.length_map, P.len]
    have ok : PySem.PlainSeq T s.heap p its.toArray ∧ PairItems s.heap its.toArray (fun j => as.getD j 0) pv := ⟨pl, by simp [← rv.length, hl], fun j k v hj => by
      have hja : j < as.length := by rw [P.len]; exact (List.getElem?_eq_some_iff.mp hj).1
      obtain ⟨k', v', e1, e2⟩ := P.at_ j as[j] (List.getElem?_eq_getElem hja)
      rw [hj] at e1; cases e1
      have e3 : as.getD j 0 = as[j] := by rw [List.getD_eq_getElem?_getD, List.getElem?_eq_getElem hja]; rfl
      show its.toArray[j]? = some (Value.ref (as.getD j 0)) ∧ PairAt s.heap (as.getD j 0) k v
      rw [e3]
      exact ⟨by simp [P.us, hja], e2⟩⟩
    have hh : PairsHaveH (nestedKind X.prog X.w) pv.length (PairRel pv) ps := ⟨b1, fun i key v hr => by
      obtain ⟨k, t, z1, z2⟩ := b2 i (key, v) hr
      exact ⟨k, t, z1, z2⟩⟩
    have stay : KeysStay (nestedKind X.prog X.w) s.heap s.heap.objs.size [] ps := fun h' hk' x hx => by
      obtain ⟨k, e1, e2, e3⟩ := b3 x hx
      have I' : Inv X pins σ H { s with heap := h' } := I.kept (t' := s.toks) fun b o e => hk' b o (Nat.ne_of_lt (Heap.lt_size e)) (by simp) e
      exact ⟨fz_nk I' e1 e3 (show RelV (V.ref x.2.1) (Value.ref x.2.1) from rfl), e2⟩
    have go : ∀ h' tk, h'.DictOfH (nestedKind X.prog X.w) s.heap.objs.size (storedAllH [] ps) → (∀ b o, b ∉ ([] : List Addr) → s.heap.get? b = some o → h'.get? b = some o) → EP X pins σ Q (.ref s.heap.objs.size) { s with heap := h', toks := tk } := fun h' tk hd hk' => by
      have ml : (storedAllH ([] : List (NestedKey × Addr × Value)) ps).length ≤ sizeLine := by have := storedAllH_length ps ([] : List (NestedKey × Addr × Value)); simp at this; omega
      have D' := D.a
      have D'' : ((putAll [] kvs).map Prod.fst).map nkD = (storedAllH [] ps).map (fun x => some x.1) := by rw [List.map_map]; exact D'
      obtain ⟨o', ho', hd'⟩ := dobj_T hd ml D.b D'' (by rw [List.all_map]; exact hk2)
      have n : H s.heap.objs.size = none := I.hok.fresh (Nat.le_refl _)
      exact ⟨.ref s.heap.objs.size, _, I.laid (t' := tk) (fun b o e => hk' b o (by simp) e) (Nat.le_refl _) (xo_ok ho' I.big), rfl, q _ o' _ vs' n hd' D.d D.c⟩
    have room : (nestedKind X.prog X.w).room X.A.in1.in1 := by
      show X.A.in1.in1.units + 8 < cLine
      rw [Around.in1_units, Around.in1_units]; omega
    rcases hT with rfl | rfl
    · exact call_dict_pairsH (PairArg.list p its.toArray (fun j => as.getD j 0) pv) (I.ok.hd hc) room ok hh stay (by omega) go
    · exact call_dict_pairsH (PairArg.tuple p its.toArray (fun j => as.getD j 0) pv) (I.ok.hd hc) room ok hh stay (by omega) go
  rcases hs with hs | ⟨o, e, hd⟩
  · obtain ⟨its, rv, ⟨o, n, ho, hc', hd, hda⟩, hz⟩ := I.list hs
    exact fin "list" its (.inl rfl) rv ⟨o, n, ho, hc', hd, hda⟩ hz
  · obtain ⟨e1, hz, its, rv, o2, e2, e3, m, e4⟩ := (show ObjOk X.prog X.w H s.heap p (.frz o (.tup ys)) from I.hok p _ e)
    rw [e1] at e2; cases e2
    exact fin "tuple" its (.inr rfl) rv ⟨o, m, e1, e3, hd, e4⟩ hz
end
section
variable {X : Cx} {G : Gm} {W : Wi} {Z Z' : Ow} {B A A1 A2 A0 : Nat → Option Addr} {σ σ1 : L2.St} {H H1 H2 H0 : Hp} {ρ ρ1 ρ2 : Ev} {Q : VK} {v : V} {r : RV}
def okDctT (kvs : List (PyData × PyData)) : Bool := (kvs.all fun p => kyT p.1) && ((putAll [] kvs).all fun p => kyT p.1)
def dctT2 (ρ : Ev) : Option (List (PyData × PyData)) → Ro RV
  | some kvs => if okDctT kvs = true then .ok (.tmp (.dict (putAll [] kvs))) ρ else .bad
  | none => .bad
def eDictT (a : EvE) : EvE := fun ρ => (a ρ).bind fun r ρ1 => dctT2 ρ1 (((res ρ1 r).bind asPs).bind prsOf)
theorem de_dictT {p pos : Pos} {e : Expr} {ea : EvE} (hc : X.calm = true) (hu : X.A.units + 66 < cLine) (hg : Gl X "dict") (hm : X.mg "dict" = none) (hv : bootBuiltins "dict" = some (.type "dict")) (ha : DE X G W e ea) (hs : starEach [e] X.env = (false, eval e X.env) :: starEach [] X.env := by rfl) (hpl : (backTo pos (starEach [] X.env)).any (·.1) = false := by rfl) :
    DE X G W (.Call (.Name "dict" p) [e] [] pos) (eDictT ea) :=
  ⟨PE_imp (pe_callTy (cr_dictT hc hu) hg hm hv (pa_cons ha.pe pa_nil hs) (by decide) (by decide) hs hpl) fun σ H Q ⟨Z, B, ρ, A, R, d⟩ => by
    refine dE_bind shift_E R d fun r1 ρ1 v H1 A1 R1 x1 f1 d1 => ?_
    cases e1 : (res ρ1 r1).bind asPs with
    | none => rw [e1] at d1; exact d1.elim
    | some ds =>
      rw [e1] at d1
      obtain ⟨dx, e2, e3⟩ := Option.bind_eq_some_iff.mp e1
      have fv := f1.vw R1 e2
      cases e4 : prsOf ds with
      | none => rw [Option.bind_some, e4] at d1; exact d1.elim
      | some kvs =>
        rw [Option.bind_some, e4] at d1
        by_cases hk : okDctT kvs = true
        · simp only [dctT2, if_pos hk] at d1
          have hk1 := (Bool.and_eq_true_iff.mp (show ((kvs.all fun p => kyT p.1) && ((putAll [] kvs).all fun p => kyT p.1)) = true from hk)).1
          have hk2 := (Bool.and_eq_true_iff.mp (show ((kvs.all fun p => kyT p.1) && ((putAll [] kvs).all fun p => kyT p.1)) = true from hk)).2
          have fin : ∀ {p : Addr} {ys : List V}, (SqL X.K H1 p ys ∨ TrT H1 p ys) → FzA (Oo Z A1) H1 ys ds → rDictT X.K [V.ref p] H1 Q := fun {p ys} hs f =>
            ⟨p, _, ys, ds, kvs, rfl, hs, f, R1.oin, e4, hk1, hk2, fun q o ks vs n hd fk fv => d1 _ _ A1 (R1.newZ (.new n) n (by rw [upd_same]; simp)) (.ext (.new n)) n ⟨o, ks, vs, upd_same, hd, fk.mono (Ext.new n).kp (fun b z => z.elim (fun z => z.elim (fun z => .inl (.inl z)) fun z => .inr (by rw [z]; exact n)) fun z => .inl (.inr z)) _, fv.mono (Ext.new n).kp (fun b z => z.elim (fun z => z.elim (fun z => .inl (.inl z)) fun z => .inr (by rw [z]; exact n)) fun z => .inl (.inr z)) _⟩⟩
          cases dx with
          | list l => cases e3; obtain ⟨p, ys, rfl, g1, g2⟩ := fv; exact fin (.inl (.of g1)) g2
          | tuple l => cases e3; obtain ⟨p, ys, rfl, g1, _, g2⟩ := fv; exact fin (.inr g1) g2
          | none => cases e3
          | bool _ => cases e3
          | int _ => cases e3
          | str _ => cases e3
          | dict _ => cases e3
        · simp only [dctT2, if_neg hk] at d1; exact d1.elim⟩
end
theorem eDictT_ {a : EvE} {ρ : Ev} : eDictT a ρ = (a ρ).bind fun r ρ1 => dctT2 ρ1 (((res ρ1 r).bind asPs).bind prsOf) := rfl
theorem dctT_ {ρ : Ev} {kvs : List (PyData × PyData)} : dctT2 ρ (some kvs) = if okDctT kvs = true then .ok (.tmp (.dict (putAll [] kvs))) ρ else .bad := rfl
end DL

/-! DL43: x in t, x not in t, t a tuple of data of any depth -/
namespace DL
open PySem PySem.Spec PyProof.Rows L2
section
variable {X : Cx} {H : Hp}
def rInT2 (neg : Bool) (K : PySem.W.Frag) : R2 := fun x y H Q => ∃ d ds, Dp K H x d ∧ Dp K H y (.tuple ds) ∧ SeqAt.shaped d = true ∧ SeqAt.shaped (.tuple ds) = true ∧ Q (.bl (if neg then !ds.any fun z => PyData.eqv z d else ds.any fun z => PyData.eqv z d)) H
theorem op_inT2 (hu : X.A.units + 65 < cLine) : OpR X (compareOp .In) (rInT2 false X.K) := by
  intro pins s σ H x y v u Q I rx ry h
  obtain ⟨d, ds, hd, he, sd, se, q⟩ := h
  obtain ⟨as, r1⟩ := Dp.reads I d x v hd rx
  obtain ⟨bs, r2⟩ := Dp.reads I (.tuple ds) y u he ry
  exact SeqAt.in_tuple_reads r2 r1 (SeqAt.canLay_of_shaped se) (SeqAt.canLay_of_shaped sd) (room_in_shaped sd hu) ⟨.bl _, H, I, rfl, q⟩
theorem op_notInT2 (hu : X.A.units + 65 < cLine) : OpR X (compareOp .NotIn) (rInT2 true X.K) := by
  intro pins s σ H x y v u Q I rx ry h
  obtain ⟨d, ds, hd, he, sd, se, q⟩ := h
  obtain ⟨as, r1⟩ := Dp.reads I d x v hd rx
  obtain ⟨bs, r2⟩ := Dp.reads I (.tuple ds) y u he ry
  exact SeqAt.notIn_tuple_reads r2 r1 (SeqAt.canLay_of_shaped se) (SeqAt.canLay_of_shaped sd) (room_in_shaped sd hu) ⟨.bl _, H, I, rfl, q⟩
def gInT2 (neg : Bool) : G2 := fun x y => match y with
  | .tuple ds => if SeqAt.shaped x = true ∧ SeqAt.shaped (.tuple ds) = true then .val (.bool (if neg then !ds.any fun z => PyData.eqv z x else ds.any fun z => PyData.eqv z x)) else .bad
  | _ => .bad
theorem op_inT2S {K : PySem.W.Frag} (neg : Bool) : Op2S (rInT2 neg K) (gInT2 neg) := by
  intro O H x y dx dy Q hO hx hy h
  cases dy with
  | tuple ds =>
    by_cases hl : SeqAt.shaped dx = true ∧ SeqAt.shaped (.tuple ds) = true
    · simp only [gInT2, if_pos hl] at h
      exact ⟨dx, ds, hx.dp (noDict_shaped hl.1), hy.dp (noDict_shaped hl.2), hl.1, hl.2, h _ H (.refl _) (.bl _)⟩
    · simp only [gInT2, if_neg hl] at h; exact h.elim
  | _ => exact h.elim
theorem o_inT2 {neg : Bool} {x : PyData} {ds : List PyData} : gInT2 neg x (.tuple ds) = if SeqAt.shaped x = true ∧ SeqAt.shaped (.tuple ds) = true then .val (.bool (if neg then !ds.any fun z => PyData.eqv z x else ds.any fun z => PyData.eqv z x)) else .bad := rfl
end
end DL

/-! DL44: max(a, b, c) of whole numbers -/
namespace DL
open PySem PySem.Spec PyProof.Rows L2
section
variable {X : Cx} {H : Hp}
def max3 (i j k : Int) : Int := if j > i then (if k > j then k else j) else (if k > i then k else i)
def rMax3 : List V → Hp → VK → Prop := fun xs H Q => ∃ i j k, xs = [V.int i, .int j, .int k] ∧ Q (.int (max3 i j k)) H
theorem cr_max3 (hc : X.calm = true) : CallR X (.builtin "max") rMax3 := by
  intro pins s σ H xs us Q I r h
  obtain ⟨i, j, k, rfl, q⟩ := h
  obtain ⟨u, w', z', rfl, ⟨t, rfl⟩, ⟨t', rfl⟩, ⟨t'', rfl⟩⟩ := vals3 r
  refine max_three_ints (I.ok.hd hc) fun h' tk kk => ⟨_, H, I.kept kk, ?_, q⟩
  unfold max3
  split <;> split <;> exact ⟨_, rfl⟩
def gMax3 : GN
  | [.int i, .int j, .int k] => .val (.int (max3 i j k))
  | _ => .bad
theorem gMax3_bad : ∀ ds, (∀ i j k, ds ≠ [.int i, .int j, .int k]) → gMax3 ds = .bad := by
  intro ds h
  unfold gMax3
  split
  · rename_i i j k; exact absurd rfl (h i j k)
  · rfl
theorem call_max3S : CallS rMax3 gMax3 := by
  intro O H xs ds Q hO hv h
  by_cases e : ∃ i j k, ds = [.int i, .int j, .int k]
  · obtain ⟨i, j, k, rfl⟩ := e
    cases hv with
    | cons a b =>
      obtain ⟨y, z, rfl, hy, hz⟩ := b.two
      cases (show _ = V.int i from a)
      cases (show _ = V.int j from hy)
      cases (show _ = V.int k from hz)
      exact ⟨i, j, k, rfl, h _ H (.refl _) (.int _)⟩
  · have h : PRS O H Q (gMax3 ds) := h
    rw [gMax3_bad ds fun i j k z => e ⟨i, j, k, z⟩] at h
    exact h.elim
theorem gMax3_ {i j k : Int} : gMax3 [.int i, .int j, .int k] = .val (.int (max3 i j k)) := rfl
end
end DL

namespace DL
open PySem PySem.Spec PyProof.Rows L2
/-! ### functions without parameters, made by a lambda -/
/-- all is kept; tables of code objects may grow -/
structure EvN (H H' : Hp) : Prop where
  keep : ∀ a o, H a = some o → Kp H' a o
  dom : ∀ a, H' a = none → H a = none
theorem EvN.refl {H : Hp} : EvN H H := ⟨fun _ _ e => .of e, fun _ e => e⟩
theorem EvN.of {A A' : Nat → Option Addr} {H H' : Hp} (x : Evo A H A' H') (n : ∀ i, A i = none) : EvN H H' := ⟨fun a o e => x.keep a o e fun i z => by (rw [n i] at z; cases z), x.dom⟩
section
variable {X : Cx} {G : Gm} {W : Wi} {Z Z' : Ow} {B A A1 A2 A0 : Nat → Option Addr} {σ σ1 : L2.St} {H H1 H2 H0 : Hp} {ρ ρ1 ρ2 : Ev} {Q : VK} {v : V} {r : RV}
theorem Rep.evN (R : Rep G Z B σ H ρ A) (x : EvN H H1) (t : LamX.Tabs G.T H1) : Rep G Z B σ H1 ρ A ∧ Evo A H A H1 := by
  have kp : ∀ {O : Ow}, ∀ a o, H a = some o → ¬ O a → Kp H1 a o := fun a o e _ => x.keep a o e
  have dm : ∀ a, H a ≠ none → H1 a ≠ none := fun a n e => n (x.dom a e)
  refine ⟨⟨R.len, fun i => ?_, R.inj, R.apart, fun a z => dm a (R.zin a z), fun i a e => dm a (R.ain i a e), R.bpar, t, fun T e => x.keep _ _ (R.tab.2 T e)⟩, ⟨fun a o e _ => x.keep a o e, x.dom, fun i a e => .inl ⟨i, e⟩⟩⟩
  have q := R.at_ i
  cases l : look ρ i with
  | non => trivial
  | scr ns =>
    rw [l] at q
    obtain ⟨a, h1, h2⟩ := q
    exact ⟨a, h1, h2.mono kp fun _ z => .inl z⟩
  | dat d k =>
    rw [l] at q
    cases k with
    | frz => obtain ⟨v, h1, h2⟩ := q; exact ⟨v, h1, h2.mono kp (fun _ z => .inl z) d⟩
    | own => obtain ⟨a, h0, h1, h2⟩ := q; exact ⟨a, h0, h1, h2.mono kp (fun _ z => .inl z) fun o e => x.keep _ o e⟩
    | par => obtain ⟨a, h0, hb, h1, h2⟩ := q; exact ⟨a, h0, hb, h1, h2.mono kp (fun _ z => .inl z) fun o e => x.keep _ o e⟩
theorem Rep.newZN {a : Addr} (R : Rep G Z B σ H ρ A) (x : EvN H H1) (t : LamX.Tabs G.T H1) (n : H a = none) (h : H1 a ≠ none) : Rep G (Zx Z a) B σ H1 ρ A := by
  have kp : ∀ {O : Ow}, ∀ a o, H a = some o → ¬ O a → Kp H1 a o := fun a o e _ => x.keep a o e
  have dm : ∀ a, H a ≠ none → H1 a ≠ none := fun a n e => n (x.dom a e)
  have f : ∀ b, Oo (Zx Z a) A b → Oo Z A b ∨ H b = none := fun b z => z.elim (fun z => z.elim (fun z => .inl (.inl z)) fun z => .inr (by rw [z]; exact n)) fun z => .inl (.inr z)
  refine ⟨R.len, fun i => ?_, R.inj, fun i b e z => z.elim (R.apart i b e) fun z => R.ain i b e (by rw [z]; exact n), fun b z => z.elim (fun z => dm b (R.zin b z)) fun z => by rw [z]; exact h, fun i b e => dm b (R.ain i b e), R.bpar, t, fun T e => x.keep _ _ (R.tab.2 T e)⟩
  have q := R.at_ i
  cases l : look ρ i with
  | non => trivial
  | scr ns =>
    rw [l] at q
    obtain ⟨a, h1, h2⟩ := q
    exact ⟨a, h1, h2.mono kp f⟩
  | dat d k =>
    rw [l] at q
    cases k with
    | frz => obtain ⟨v, h1, h2⟩ := q; exact ⟨v, h1, h2.mono kp f d⟩
    | own => obtain ⟨a, h0, h1, h2⟩ := q; exact ⟨a, h0, h1, h2.mono kp f fun o e => x.keep _ o e⟩
    | par => obtain ⟨a, h0, hb, h1, h2⟩ := q; exact ⟨a, h0, hb, h1, h2.mono kp f fun o e => x.keep _ o e⟩
/-- what such a function comes to -/
inductive TR where
  | ok (d : PyData) | exc (x : Ex)
def tkE (G : Gm) (O : Ow) (HZ : Hp) (Q : VK) (E : XK) : TR → Prop
  | .ok d => ∀ v H', EvN HZ H' → LamX.Tabs G.T H' → Fz O H' v d → Q v H'
  | .exc x => ∀ cv dx H', EvN HZ H' → LamX.Tabs G.T H' → ExR G O H' x cv dx → E cv dx H'
/-- the reading of its call -/
def tkR (G : Gm) (T : Tk) (t : TR) (HZ : Hp) (Q : VK) (E : XK) : Prop :=
  ∃ O : Ow, (∀ a, O a → HZ a ≠ none) ∧ LamX.Tabs G.T HZ ∧ T.ρ.length = T.σ.length ∧ (∀ i, CapR G O HZ T.σ i (look T.ρ i)) ∧ tkE G O HZ Q E t
/-- the function T, known at the entry of the def that got it: called from there on it comes to t -/
structure ThkP (P : Program) (w : World) (K : PySem.W.Frag) (mg : Str → Option Value) (base : Heap) (kT : Nat) (G : Gm) (outer : List Env) (s : Shared) (H : Hp) (T : Tk) (t : TR) : Prop where
  none_ : H T.f = none
  off : T.f ∉ frs outer
  ob : ∃ o, s.heap.get? T.f = some o ∧ ∀ h : Heap, h.get? T.f = some o → PySem.W.FnAt T.f h
  run : ∀ (A' : Around) (stk : List Env) (s1 : Shared) (HZ : Hp) (Q : VK) (E : XK), Room (kT + 1) A' → A'.guards = some [] → Env0 P w K mg base A' stk s1 HZ → Un (frs outer) [] H HZ s.heap s1.heap → s1.heap.get? T.f = s.heap.get? T.f →
    HZ T.c = some (LamX.CodeO T.c T.q) → tkR G T t HZ Q E → codeAny (model P w) A' (.call (.ref T.f) ⟨[], []⟩) (CR (L2.CX P w) stk P w HZ s1 Q E) s1
/-- x(), x a parameter that holds such a function -/
def thR (t : TR) (ρ : Ev) : Sl → Ro RV
  | .scr .thk => match t with
    | .ok d => .ok (.shr d) ρ
    | .exc x => .exc x ρ
  | _ => .bad
def eThk (t : TR) (i : Nat) : EvE := fun ρ => thR t ρ (look ρ i)
theorem thk_read {t : TR} {i : Nat} {T : Tk} (hT : G.tk = some T) (R : Rep G Z B σ H ρ A) (d : Done G W Z B σ (pE G Z B σ Q) H A (eThk t i ρ)) : σ[i]? = some (some (.ref T.f)) ∧ H T.c = some (LamX.CodeO T.c T.q) ∧ tkR G T t H Q (fun cv dx H' => W cv dx σ H') := by
  have q := R.at_ i
  unfold eThk at d
  cases l : look ρ i with
  | non => rw [l] at d; exact d.elim
  | dat _ _ => rw [l] at d; exact d.elim
  | scr th =>
    rw [l] at d q
    rcases th with ns | x | _
    · exact d.elim
    · exact d.elim
    · obtain ⟨a, h1, T', e1, e2, e3, e4⟩ := q
      rw [hT] at e1
      cases e1
      subst e2
      refine ⟨h1, R.tab.2 T hT, Oo Z A, R.oin, R.tab.1, e3, e4, ?_⟩
      cases t with
      | ok c => exact fun v H' x tb f => d v H' A (R.evN x tb).1 (R.evN x tb).2 f
      | exc y => exact fun cv dx H' x tb f => d cv dx H' A (R.evN x tb).1 (R.evN x tb).2 f
theorem de_thk {kT i : Nat} {T : Tk} {t : TR} {a : Str} {p1 p2 : Pos} (TP : ThkP X.prog X.w X.K X.mg X.base kT G X.outer X.s_0 X.H_0 T t) (hT : G.tk = some T) (hr : Room (kT + 1) X.A) (hG : X.A.guards = some []) (tk : Takes X W)
    (hN : X.N[i]? = some a) (hv : Vis X.env.scope a) (hfs : X.fs = frs X.outer := by rfl) (hex : X.ex = [] := by rfl) (hd : (a == ("__debug__" : Str)) = false := by decide) (hcd : (a == ("__classdict__" : Str)) = false := by decide) : DE X G W (.Call (.Name a p1) [] [] p2) (eThk t i) := by
  refine ⟨⟨fun pins s σ H Q I ⟨Z, B, ρ, A, R, d⟩ => ?_⟩⟩
  obtain ⟨hs, hc, ht⟩ := thk_read hT R d
  refine wpAny_Call_Name_kw (thn ((pe_var (pos := p1) (i := i) hN hv hd hcd).run pins s σ H (fun v H1 => v = .ref T.f ∧ H1 = H) I ⟨.ref T.f, hs, rfl, rfl⟩) fun u s1 ⟨v, H1, I1, r1, q1⟩ => ?_)
  obtain ⟨ev, eH⟩ := q1
  subst ev
  subst eH
  obtain rfl : u = Value.ref T.f := r1
  obtain ⟨ob, ho, hf⟩ := TP.ob
  have bs := I1.base
  rw [hfs, hex] at bs
  have at1 : s1.heap.get? T.f = some ob := bs.keep _ ob ho TP.none_ TP.off fun z => nomatch z
  refine PySem.W.callWith_F0 (hf _ at1) ?_
  refine wpAny_call (codeAny_mono (TP.run X.A X.stack s1 H1 Q (fun cv dx H' => W cv dx σ H') hr hG I1.env0 bs (at1.trans ho.symm) hc ht) fun r s' hq => ?_)
  match r, hq with
  | .error e, hq => exact patX tk σ pins H1 s1 e s' I1 hq
  | .ok (.ret u), hq => exact I1.after hq
  | .ok .next, hq => exact hq.elim
  | .ok .brk, hq => exact hq.elim
  | .ok .cont, hq => exact hq.elim
end
/-! ### the def that gets such a function -/
def Gm.thk (G : Gm) (T : Tk) : Gm := { G with tk := some T }
structure FnTk (P : Program) (w : World) (K : PySem.W.Frag) (mg : Str → Option Value) (base : Heap) (k kT : Nat) (g : Addr) (fd : FuncData) (a : Str) (G : Gm) (F : TR → FnD) : Prop where
  run : ∀ (A : Around) (outer : List Env) (s : Shared) (H : Hp) (args : Args) (Q : VK) (E : XK) (T : Tk) (t : TR), Room k A → A.guards = some [] → Env0 P w K mg base A outer s H → BindsTo s fd args ([a].zip [.ref T.f]) →
    ThkP P w K mg base kT (G.thk T) outer s H T t → spD (G.thk T) 1 (F t) [.ref T.f] H Q E → codeAny (model P w) A (.call (.ref g) args) (CR (L2.CX P w) outer P w H s Q E) s
theorem ok_defT {P : Program} {w : World} {K : PySem.W.Frag} {mg : Str → Option Value} {base : Heap} {G : Gm} {k kT : Nat} {f : Addr} {fd : FuncData} {N : List Str} {a name qual : Str} {st : Stmt} {body : TR → EvS} (F : Fun K name qual st f fd) (S : FnScope N [a] (defScope st))
    (hb : ∀ (cdv : Value) (A : Around) (outer : List Env) (s : Shared) (H : Hp) (E : XK) (T : Tk) (t : TR), Room k (A.deeper (envOfC qual (defScope st) s.heap.objs.size f cdv)) → A.guards = some [] → ThkP P w K mg base kT (G.thk T) outer s H T t →
      DSs (cxOf (L2.CX P w) P w K mg base N qual (defScope st) f cdv A outer s H E) (G.thk T) (fun cv dx _ H' => E cv dx H') (defBody st) (body t)) :
    FnTk P w K mg base (k + 1) kT f fd a G (fun t => defG true 1 N.length (body t)) := by
  obtain ⟨oc, od, kV, doc, pm, an, cdv, ct, osl, rfl, lk, hcd⟩ := F.ex
  have hpl : 1 ≤ N.length := by
    have := congrArg List.length S.pre
    rw [List.length_take] at this
    simp at this
    omega
  refine ⟨fun A outer s H args Q E T t room gd e0 bd tp hsp => ?_⟩
  obtain ⟨hl, Z, B, as, R, c⟩ := hsp
  obtain ⟨Z1, B1, ρ1, A1, R1, _, d1⟩ := body_end (E := E) (N := N) (ps := [a]) (body := body t) R rfl hpl c
  have inK : K.In s.heap := e0.mod.kin.keeps fun b o e => And.left (e0.bs b o e)
  have noLim : s.heap.NoLimit := e0.mod.nolimit.keeps fun b o e => And.left (e0.bs b o e)
  have kinds : ∀ y ∈ [a].zip [Value.ref T.f], (defScope st).names.lookup y.1 = some .local ∨ ((defScope st).names.lookup y.1 = some .cell ∧ ((cellsFrom (s.heap.objs.size + 1) (defScope st).names []).lookup y.1).isSome = true) := by
    rintro ⟨n, v⟩ hy
    exact (S.par n (List.of_mem_zip hy).1).elim Or.inl fun q => Or.inr ⟨q, PySem.W.cellsFrom_some _ _ _ (Or.inl q)⟩
  refine codeAny_call_function room.depth (inK _ _ lk) rfl S.co S.gen rfl (PySem.W.codeRec_of inK hcd) (bd _ _ _ _ (wpAny_newFunctionEnv_cells S.kind kinds fun env he s1 x => ?_))
  subst he
  refine ⟨noLim.keeps x.toInCall.keep, codeAny_func ?_⟩
  have I := inv_start (E := E) (CX := L2.CX P w) (vs := [.ref T.f]) S room.hd e0 rfl (.cons rfl .nil) x
  refine wpAny_mono (((hb cdv A outer s H E T t (room.deeper _) gd tp).pss).run [] s1 _ H { nx := fun _ H' => Q .non H', rt := Q } I ⟨Z1, B1, ρ1, A1, R1, d1⟩) (fun fl s' hs => ?_) (fun e s' hs => hs)
  cases fl with
  | brk => exact (hs.choose_spec.choose_spec.2 : False).elim
  | cont => exact (hs.choose_spec.choose_spec.2 : False).elim
  | next =>
    obtain ⟨σ', H', J, q⟩ := hs
    exact ⟨V.non, H', J.os, J.bare, J.base, J.hok, rfl, q⟩
  | ret u =>
    obtain ⟨v, σ', H', J, r1, q⟩ := hs
    exact ⟨v, H', J.os, J.bare, J.base, J.hok, r1, q⟩
end DL

namespace DL
open PySem PySem.Spec PyProof.Rows L2
/-! ### the making of a function without parameters -/
/-- one code object more: its table at P, the object at c -/
def addC (H : Hp) (P : Addr) (qs : Array Value) (c : Addr) (q : Str) : Hp := upd (upd H P (.tbl qs)) c (LamX.CodeO c q)
section
variable {H : Hp} {P c f : Addr} {ps qs : Array Value} {q : Str} {T : List (Addr × Str)} {pos : Pos}
theorem addC_get (hP : H P = some (.tbl ps)) (nC : H c = none) {b : Addr} {o : HO} (e : H b = some o) (n : ∀ x, o ≠ .tbl x) : addC H P qs c q b = some o := by
  unfold addC
  rw [upd_ne (ne_of_none e nC)]
  by_cases z : b = P
  · rw [z, hP] at e; cases e; exact absurd rfl (n _)
  · rw [upd_ne z]; exact e
theorem addC_c : addC H P qs c q c = some (LamX.CodeO c q) := upd_same
theorem addC_P (hP : H P = some (.tbl ps)) (nC : H c = none) : addC H P qs c q P = some (.tbl qs) := by
  unfold addC
  rw [upd_ne (ne_of_none hP nC), upd_same]
theorem addC_evN (hP : H P = some (.tbl ps)) (nC : H c = none) : EvN H (addC H P qs c q) := by
  have key : ∀ b o, H b = some o → ∃ u, addC H P qs c q b = some u ∧ Kp (addC H P qs c q) b o := fun b o e => by
    by_cases z : b = P
    · subst z
      rw [hP] at e
      cases e
      have := addC_P (qs := qs) (q := q) hP nC
      exact ⟨_, this, by show addC H b qs c q b ≠ none; rw [this]; exact Option.some_ne_none _⟩
    · have : addC H P qs c q b = some o := by
        unfold addC
        rw [upd_ne (ne_of_none e nC), upd_ne z]; exact e
      exact ⟨_, this, .of this⟩
  refine ⟨fun b o e => (key b o e).choose_spec.2, fun b e => ?_⟩
  cases h : H b with
  | none => rfl
  | some o =>
    obtain ⟨u, h1, _⟩ := key b o h
    rw [e] at h1
    cases h1
theorem addC_tabs (hP : H P = some (.tbl ps)) (nC : H c = none) (ht : TriplesOk ps.toList) (hT : LamX.Tabs T H) (hu : ∀ p ∈ T, p.1 = P → p.2 = q) :
    LamX.Tabs T (addC H P (ps ++ #[rawInt pos.line, rawInt pos.col, .ref c]) c q) := fun p hp => by
  obtain ⟨ps', a1, a2, a3⟩ := hT p hp
  have old : ∀ c0, H c0 = some (LamX.CodeO c0 p.2) → addC H P (ps ++ #[rawInt pos.line, rawInt pos.col, .ref c]) c q c0 = some (LamX.CodeO c0 p.2) := fun c0 e => addC_get hP nC e LamX.codeO_ne
  by_cases hb : p.1 = P
  · rw [hb, hP] at a1
    cases a1
    refine ⟨_, by rw [hb]; exact addC_P hP nC, by rw [Array.toList_append]; exact PySem.TriplesOk_snoc _ _ _ _ ht, fun p' cv hcv => ?_⟩
    rw [Array.toList_append] at hcv
    rcases LamX.among_app _ ht hcv with z | z
    · obtain ⟨c0, e1, e2⟩ := a3 p' cv z
      exact ⟨c0, e1, old _ e2⟩
    · refine ⟨c, z, ?_⟩
      rw [hu p hp hb]
      exact addC_c
  · refine ⟨ps', ?_, a2, fun p' cv hcv => ?_⟩
    · unfold addC
      rw [upd_ne (ne_of_none a1 nC), upd_ne hb]; exact a1
    · obtain ⟨c0, e1, e2⟩ := a3 p' cv hcv
      exact ⟨c0, e1, old _ e2⟩
end
/-- what is told behind it -/
structure LamMade (X : Cx) (pins : List (Addr × Obj)) (σ : L2.St) (H : Hp) (T : List (Addr × Str)) (params : Arguments) (body : Expr) (scope : Scope) (f c' : Addr) (H1 : Hp) (s' : Shared) : Prop where
  inv : Inv X pins σ H1 s'
  ev : EvN H H1
  tabs : LamX.Tabs T H1
  ob : ∃ pm ctv, s'.heap.get? f = some (PySem.W.kla_obj "<lambda>" (X.env.qual ++ "<lambda>") params body scope (cloFrom X.env.cells scope.names []) pm c' ctv)
  none_ : H1 f = none
  off : f ∉ frs X.stack
  code : H1 c' = some (LamX.CodeO c' (X.env.qual ++ "<lambda>"))
section
variable {X : Cx} {pins : List (Addr × Obj)} {σ : L2.St} {H : Hp} {s : Shared} {T : List (Addr × Str)} {c P : Addr} {params : Arguments} {body : Expr} {scope : Scope} {pos : Pos} {E Q : Value → Shared → Prop}
theorem not_frame (I : Inv X pins σ H s) {f : Addr} (hf : s.heap.objs.size ≤ f) : f ∉ frs X.stack := fun z => by
  rcases List.mem_cons.mp (I.stkSub _ z) with e | e
  · have := I.lt
    rw [← e] at this
    exact absurd this (Nat.not_lt.mpr hf)
  · exact I.nofs hf e
theorem lam_new (I : Inv X pins σ H s) (TB : LamX.TabB X.base X.mg c P) (hcode : X.env.code = .ref c) (hm : (P, X.env.qual ++ "<lambda>") ∈ T) (hu : ∀ p ∈ T, p.1 = P → p.2 = X.env.qual ++ "<lambda>") (hT : LamX.Tabs T H) (hdef : defaultsOf params X.env = ([], []))
    (hfree : ∀ y ∈ scope.names, y.2 = .free → ∃ c, X.env.cells.lookup y.1 = some c) (h : ∀ f c' H1 s', LamMade X pins σ H T params body scope f c' H1 s' → Q (.ref f) s') :
    wpAny (model X.prog X.w) X.A (eval (.Lambda params body scope pos) X.env) Q E s := by
  obtain ⟨ps, hP, ht, ha⟩ := hT _ hm
  have cl := closure_ok hfree
  have gl := I.mod.glob.keeps I.bk
  have hd := TB.code.keeps I.bk
  have bt := TB.bm.keeps I.bk
  have atP : s.heap.get? P = some { cls := .none, data := .fields ps } := I.hok P _ hP
  apply PySem.W.kla_eval hdef
  by_cases new : codeAmong pos ps.toList = none
  · apply PySem.W.kla_makeFunction cl I.ok.glob gl hcode hd atP ht new TB.gP bt
    intro c' ctv h' tk hx hge hlt hrec htb
    obtain ⟨c2, oc, vs, t, e2, hoc, hdc, hv⟩ := hrec
    cases e2
    have n : H c' = none := I.hok.fresh hge
    have up : s.heap.objs.size ≤ h'.objs.size := Nat.le_trans hge (Nat.le_of_lt hlt)
    refine h h'.objs.size c' (addC H P (ps ++ #[rawInt pos.line, rawInt pos.col, .ref c']) c' (X.env.qual ++ "<lambda>")) _ ⟨?_, addC_evN hP n, addC_tabs hP n ht hT hu, ⟨_, ctv, Heap.get?_push_size _ rfl⟩, ?_, not_frame I up, addC_c⟩
    · exact LamX.inv_table (t' := tk) I hP (fun b o hb e => Heap.get?_push_of_some _ (hx b o hb e)) (Heap.get?_push_of_some _ htb) hge ⟨oc, vs, t, Heap.get?_push_of_some _ hoc, hdc, hv⟩
    · unfold addC
      rw [upd_ne (Nat.ne_of_gt hlt), upd_ne (Nat.ne_of_gt (Nat.lt_of_lt_of_le (Heap.lt_size atP) up))]
      exact I.hok.fresh up
  · obtain ⟨cv, hc⟩ := Option.ne_none_iff_exists'.mp new
    obtain ⟨c', rfl, hco⟩ := ha pos cv hc
    apply PySem.W.kla_makeFunctionHit cl I.ok.glob gl hcode hd atP ht hc bt
    intro ctv h' tk hx up
    refine h h'.objs.size c' H _ ⟨?_, .refl, hT, ⟨_, ctv, Heap.get?_push_size _ rfl⟩, I.hok.fresh up, not_frame I up, hco⟩
    exact I.kept fun b o e => Heap.get?_push_of_some _ (hx b o e)
end
/-! ### x(lambda: e) -/
/-- what it captures: data that never change -/
def capS : Sl → Sl
  | .dat d .frz => .dat d .frz
  | .scr (.nums ns) => .scr (.nums ns)
  | _ => .non
def endL (ρ : Ev) : Ro RV → Ro RV
  | .ok (.shr d) _ => .ok (.shr d) ρ
  | .ok (.tmp d) _ => .ok (.tmp d) ρ
  | .exc x _ => .exc x ρ
  | _ => .bad
def eCallL (F : TR → FnD) (eb : EvE) : EvE := fun ρ => match eEsc eb (ρ.map capS) with
  | .ok (.shr d) _ => endL ρ (F (.ok d) [.scr .thk])
  | .exc x _ => endL ρ (F (.exc x) [.scr .thk])
  | _ => .bad
theorem look_map (f : Sl → Sl) (h : f .non = .non) : ∀ (ρ : Ev) (i : Nat), look (ρ.map f) i = f (look ρ i)
  | [], _ => by simp [look, h]
  | _ :: _, 0 => rfl
  | _ :: r, i + 1 => look_map f h r i
section
variable {X : Cx} {G : Gm} {W : Wi} {Z Z' : Ow} {B A A1 A2 A0 : Nat → Option Addr} {σ σ1 : L2.St} {H H1 H2 H0 : Hp} {ρ ρ1 ρ2 : Ev} {Q : VK} {v : V} {r : RV}
theorem Rep.cap (R : Rep G Z B σ H ρ A) (i : Nat) : CapR G (Oo Z A) H σ i (look (ρ.map capS) i) := by
  rw [look_map capS rfl]
  have q := R.at_ i
  cases l : look ρ i with
  | non => trivial
  | dat d k =>
    rw [l] at q
    cases k with
    | frz => exact q
    | own => trivial
    | par => trivial
  | scr t =>
    rw [l] at q
    rcases t with ns | x | _
    · exact q
    · trivial
    · trivial
theorem cap_rep {O : Ow} {T : Tk} (hO : ∀ a, O a → H a ≠ none) (tb : LamX.Tabs G.T H) (hk : G.tk = none) (hl : T.ρ.length = T.σ.length) (hc : ∀ i, CapR G O H T.σ i (look T.ρ i)) : Rep G O (fun _ => none) T.σ H T.ρ (fun _ => none) := by
  have sub : ∀ a, Oo O (fun _ => none) a → O a := fun a z => z.elim id fun ⟨_, e⟩ => nomatch e
  refine ⟨hl, fun i => ?_, (fun i j a e => nomatch e), (fun i a e => nomatch e), hO, (fun i a e => nomatch e), (fun i a e => nomatch e), tb, fun T' e => by rw [hk] at e; cases e⟩
  have q := hc i
  cases l : look T.ρ i with
  | non => trivial
  | dat d k =>
    rw [l] at q
    cases k with
    | frz => obtain ⟨v, h1, h2⟩ := q; exact ⟨v, h1, h2.weak sub⟩
    | own => exact q.elim
    | par => exact q.elim
  | scr t =>
    rw [l] at q
    rcases t with ns | x | _
    · obtain ⟨a, h1, h2⟩ := q; exact ⟨a, h1, h2.mono kp0 fun b z => .inl (sub b z)⟩
    · exact q.elim
    · exact q.elim
theorem exR_weak {O O' : Ow} {x : Ex} {cv : Value} {dx : Option Addr} (f : ∀ a, O' a → O a) (h : ExR G O H x cv dx) : ExR G O' H x cv dx := by
  obtain ⟨C, h1, h2, h3⟩ := h
  refine ⟨C, h1, h2, ?_⟩
  cases hd : x.d with
  | none => rw [hd] at h3; exact h3
  | some dd =>
    rw [hd] at h3
    obtain ⟨p, w, g1, g2, g3, g4⟩ := h3
    exact ⟨p, w, g1, g2, fun z => g3 (f _ z), g4.weak f⟩
/-- what the body comes to -/
def BodyTo (eb : EvE) (ρ : Ev) : TR → Prop
  | .ok d => ∃ ρ1, eEsc eb ρ = .ok (.shr d) ρ1
  | .exc x => ∃ ρ1, eEsc eb ρ = .exc x ρ1
theorem lam_promise {pins : List (Addr × Obj)} {s : Shared} {kT : Nat} {params : Arguments} {body : Expr} {scope : Scope} {f c' : Addr} {H1 : Hp} {eb : EvE} {t : TR} {cap : Ev} (M : LamMade X pins σ H G.T params body scope f c' H1 s) (L : LamX.LamS X.env.scope scope) (hk : G.tk = none)
    (hbind : ∀ (q : Str) (cl : List (Str × Addr)) (pm cv ctv : Value), bindArgs (PySem.W.kla_fn "<lambda>" q params body scope cl pm cv ctv) ⟨[], []⟩ = pure [])
    (hbody : ∀ (A : Around) (outer : List Env) (s : Shared) (H : Hp) (E : XK) (f c' : Addr), Room kT (A.deeper (LamX.lamEnv X scope s.heap.objs.size f c')) → A.guards = some [] → DE (LamX.lamCx X A outer s H E scope f c') G (fun cv dx _ H' => E cv dx H') body eb)
    (ht : BodyTo eb cap t) : ThkP X.prog X.w X.K X.mg X.base kT (G.thk ⟨f, c', X.env.qual ++ "<lambda>", σ, cap⟩) X.stack s H1 ⟨f, c', X.env.qual ++ "<lambda>", σ, cap⟩ t := by
  obtain ⟨pm, ctv, ho⟩ := M.ob
  refine ⟨M.none_, M.off, ⟨_, ho, fun h e => ⟨_, _, _, _, e⟩⟩, fun A' stk s1 HZ Q' E' room gd e0 un same hc tr => ?_⟩
  obtain ⟨O, hO, tb, hl, hcap, hend⟩ := tr
  have of1 := same.trans ho
  have KX : X.K.In s1.heap := e0.mod.kin.keeps fun b o e => (e0.bs b o e).1
  have noLim : s1.heap.NoLimit := e0.mod.nolimit.keeps fun b o e => (e0.bs b o e).1
  obtain ⟨⟨oc, vs, tq, hoc, hdc, hvc⟩, _, _⟩ := e0.hok c' _ hc
  apply PySem.W.kla_callFunE room.depth of1 rfl L.co L.gen rfl ⟨c', oc, vs, tq, rfl, hoc, hdc, hvc⟩
  rw [hbind]
  refine wpAny_pure (wpAny_newFunctionEnv (fun y hy => (L.own y hy).2) (fun y hy => absurd hy List.not_mem_nil) (fun h1 hns hsb => ⟨noLim.fresh _ hsb, ?_⟩) L.kind)
  show codeAny _ _ (.expr body (LamX.lamEnv X scope s1.heap.objs.size f c')) _ _
  have kp : ∀ b o, s1.heap.get? b = some o → h1.get? b = some o := fun b o e => hsb.extBut b o (Nat.ne_of_lt (Heap.lt_size e)) (Heap.get?_push_of_some _ e)
  have J : Inv (LamX.lamCx X A' stk s1 HZ E' scope f c') [] σ HZ { s1 with heap := h1, toks := s1.toks + ([] : List (Str × Value)).length } := LamX.lam_start2 M.inv L e0 room.hd un hns kp
  have R := cap_rep (G := G) (T := ⟨f, c', X.env.qual ++ "<lambda>", σ, cap⟩) hO tb hk hl hcap
  have rd : dE G (fun cv dx _ H' => E' cv dx H') (eEsc eb) σ HZ Q' := by
    refine ⟨O, _, cap, _, R, ?_⟩
    have sub : ∀ {A' : Nat → Option Addr} a, O a → Oo O A' a := fun a z => .inl z
    cases t with
    | ok d =>
      obtain ⟨ρ1, e⟩ := ht
      rw [e]
      exact fun v H' A1 R1 x f => hend v H' (EvN.of x fun _ => rfl) R1.tab.1 (f.weak sub)
    | exc y =>
      obtain ⟨ρ1, e⟩ := ht
      rw [e]
      exact fun cv dx H' A1 R1 x f => hend cv dx H' (EvN.of x fun _ => rfl) R1.tab.1 (exR_weak sub f)
  refine PySem.W.kla_codeExpr (wpAny_mono ((de_esc (hbody A' stk s1 HZ E' f c' (room.deeper _) gd)).pe.run [] _ σ HZ Q' J rd) (fun v s' hq => ?_) fun e s' hq => hq)
  obtain ⟨w', H', J', rv, q⟩ := hq
  exact ⟨w', H', J'.os, J'.bare, J'.base, J'.hok, rv, q⟩
theorem de_callL {k kT : Nat} {g c P : Addr} {fd : FuncData} {x a : Str} {F : TR → FnD} {params : Arguments} {body : Expr} {scope : Scope} {eb : EvE} {p lpos pos : Pos} (hF : FnTk X.prog X.w X.K X.mg X.base k kT g fd a G F) (hr : Room k X.A) (hG : X.A.guards = some []) (hg : Gl X x) (hm : X.mg x = some (.ref g))
    (hk : PySem.W.keepIn X.K (.ref g) = true) (hb : Binds X.K fd [a] []) (hn : G.tk = none) (TB : LamX.TabB X.base X.mg c P) (hcode : X.env.code = .ref c) (hmT : (P, X.env.qual ++ "<lambda>") ∈ G.T) (hu : ∀ p ∈ G.T, p.1 = P → p.2 = X.env.qual ++ "<lambda>") (tk : Takes X W) (L : LamX.LamS X.env.scope scope)
    (hdef : defaultsOf params X.env = ([], [])) (hbind : ∀ (q : Str) (cl : List (Str × Addr)) (pm cv ctv : Value), bindArgs (PySem.W.kla_fn "<lambda>" q params body scope cl pm cv ctv) ⟨[], []⟩ = pure [])
    (hbody : ∀ (A : Around) (outer : List Env) (s : Shared) (H : Hp) (E : XK) (f c' : Addr), Room kT (A.deeper (LamX.lamEnv X scope s.heap.objs.size f c')) → A.guards = some [] → DE (LamX.lamCx X A outer s H E scope f c') G (fun cv dx _ H' => E cv dx H') body eb)
    (hdb : (x == ("__debug__" : Str)) = false := by decide) : DE X G W (.Call (.Name x p) [.Lambda params body scope lpos] [] pos) (eCallL F eb) := by
  refine ⟨⟨fun pins s σ H Q I ⟨Z, B, ρ, A, R, d⟩ => ?_⟩⟩
  refine wpAny_Call_Name_kw (ld_glob I hg hm ?_ hdb)
  refine PySem.W.callWith_K (h₀ := X.base) I.ok.mod.kin hk ?_ (by rfl) (by rfl)
  show wpAny _ _ (spliced ((false, eval (.Lambda params body scope lpos) X.env) :: backTo pos (starEach [] X.env))) _ _ s
  refine Calls.spliced_cons (lam_new I TB hcode hmT hu R.tab.1 hdef (L.has I.ok) fun f c' H1 s' M => Calls.spliced_nil ⟨M.inv.kIn, ?_⟩)
  obtain ⟨R1, x1⟩ := R.evN M.ev M.tabs
  have main : ∀ t : TR, BodyTo eb (ρ.map capS) t → Done G W Z B σ (pE G Z B σ Q) H A (endL ρ (F t [.scr .thk])) → wpAny (model X.prog X.w) X.A (call (.ref g) [.ref f]) (EP X pins σ Q) X.xe s' := fun t ht d => by
    have TP := lam_promise (kT := kT) M L hn hbind hbody ht
    have R2 : Rep (G.thk ⟨f, c', X.env.qual ++ "<lambda>", σ, ρ.map capS⟩) (Oo Z A) (fun _ => none) [some (V.ref f)] H1 [.scr .thk] (fun _ => none) := by
      refine ⟨rfl, fun i => ?_, (fun i j a e => nomatch e), (fun i a e => nomatch e), R1.oin, (fun i a e => nomatch e), (fun i a e => nomatch e), M.tabs, fun T e => ?_⟩
      · match i with
        | 0 =>
          refine ⟨f, rfl, _, rfl, rfl, by show (ρ.map capS).length = σ.length; rw [List.length_map]; exact R.len, fun j => ?_⟩
          exact (R1.cap j).mono kp0 fun b z => .inl (z.elim id fun ⟨_, e⟩ => nomatch e)
        | i + 1 => trivial
      · cases e; exact M.code
    have sp : spD (G.thk ⟨f, c', X.env.qual ++ "<lambda>", σ, ρ.map capS⟩) 1 (F t) [.ref f] H1 Q (fun cv dx H' => W cv dx σ H') := by
      refine ⟨rfl, _, _, _, R2, ?_⟩
      have sub : ∀ a, Oo Z A a → Oo (Oo Z A) (fun _ => none) a := fun a z => .inl z
      cases e : F t [.scr .thk] with
      | bad => rw [e] at d; exact d.elim
      | exc y ρ' =>
        rw [e] at d
        intro cv dx H' R' x' f'
        obtain ⟨R3, x3⟩ := R1.evN (EvN.of x' fun _ => rfl) R'.tab.1
        exact d cv dx H' A R3 (x1.trans x3) (exR_weak sub f')
      | ok r ρ' =>
        rw [e] at d
        cases r with
        | var _ => exact d.elim
        | shr dd =>
          intro v H' R' x' f'
          obtain ⟨R3, x3⟩ := R1.evN (EvN.of x' fun _ => rfl) R'.tab.1
          exact d v H' A R3 (x1.trans x3) (f'.weak sub)
        | tmp dd =>
          intro b H' R' x' n' o'
          obtain ⟨R3, x3⟩ := R1.evN (EvN.of x' fun _ => rfl) R'.tab.1
          have n0 : H b = none := by
            cases q : H b with
            | none => rfl
            | some u => exact absurd n' (M.ev.keep b u q).ne
          have hb' : H' b ≠ none := o'.there
          have R4 : Rep G (Zx Z b) B σ H' ρ A := R1.newZN (EvN.of x' fun _ => rfl) R'.tab.1 n' hb'
          exact d b H' A R4 (x1.trans x3) n0 (o'.weak fun a z => z.elim (fun z => z.elim (fun z => .inl (.inl (.inl z))) fun z => .inl (.inr z)) fun z => .inl (.inl (.inr z)))
    have e0 := M.inv.env0
    refine wpAny_call (codeAny_mono (hF.run X.A X.stack s' H1 ⟨[.ref f], []⟩ Q _ ⟨f, c', X.env.qual ++ "<lambda>", σ, ρ.map capS⟩ t hr hG e0 (hb s' [.ref f] M.inv.kIn rfl) TP sp) fun r s2 hq => ?_)
    match r, hq with
    | .error e, hq => exact patX tk σ pins H1 s' e s2 M.inv hq
    | .ok (.ret u), hq => exact M.inv.after hq
    | .ok .next, hq => exact hq.elim
    | .ok .brk, hq => exact hq.elim
    | .ok .cont, hq => exact hq.elim
  unfold eCallL at d
  cases e : eEsc eb (ρ.map capS) with
  | bad => rw [e] at d; exact d.elim
  | exc y ρ1 => rw [e] at d; exact main (.exc y) ⟨ρ1, e⟩ d
  | ok r ρ1 =>
    rw [e] at d
    cases r with
    | shr dd => exact main (.ok dd) ⟨ρ1, e⟩ d
    | tmp _ => exact d.elim
    | var _ => exact d.elim
end
end DL

namespace DL
open PySem PySem.Spec PyProof.Rows L2
/-! ### defs that make functions; the law's end with tables of code objects -/
abbrev gmL (K : PySem.W.Frag) (l : List (String × Addr)) (fs : String → String) (T : List (Addr × Str)) : Gm := ⟨K, fun c => l.lookup c, fun c => fs c, T, none⟩
/-- a def whose code object is known -/
theorem ok_defM {P : Program} {w : World} {K : PySem.W.Frag} {mg : Str → Option Value} {base : Heap} {G : Gm} {k : Nat} {f c : Addr} {fd : FuncData} {N ps : List Str} {name qual : Str} {st : Stmt} {body : EvS} (hc : fd.code = .ref c) (F : Fun K name qual st f fd) (S : FnScope N ps (defScope st))
    (hb : ∀ (A : Around) (outer : List Env) (s : Shared) (H : Hp) (E : XK), Room k (A.deeper (envOfC qual (defScope st) s.heap.objs.size f (.ref c))) → A.guards = some [] →
      DSs (cxOf (L2.CX P w) P w K mg base N qual (defScope st) f (.ref c) A outer s H E) G (fun cv dx _ H' => E cv dx H') (defBody st) body) :
    FnG P w K mg base (L2.CX P w) (k + 1) f fd ps (spD G ps.length (defG true ps.length N.length body)) := by
  obtain ⟨oc, od, kV, doc, pm, an, cdv, ct, osl, rfl, lk, hcd⟩ := F.ex
  have hcv : cdv = .ref c := hc
  subst hcv
  have hpl : ps.length ≤ N.length := by
    have := congrArg List.length S.pre
    rw [List.length_take] at this
    omega
  refine fnG_of lk hcd S (fun vs H Q E h => h.1) fun A outer s H vs Q E hr hG ⟨hl, Z, B, args, R, d⟩ => ?_
  obtain ⟨Z1, B1, ρ1, A1, R1, _, d1⟩ := body_end (E := E) R hl hpl d
  exact ⟨_, (hb A outer s H E hr hG).pss, Z1, B1, ρ1, A1, R1, d1⟩
/-- an empty table -/
abbrev tab0 : Obj := { cls := .none, data := .fields #[] }
/-- what is tracked at the law's entry: the script and empty tables -/
structure Entry (K : PySem.W.Frag) (h : Heap) (cs : List (Addr × Addr)) (H : Hp) : Prop where
  tab : ∀ p ∈ cs, H p.2 = some (.tbl #[])
  cases_ : ∀ b u, H b = some u → K.lookup b = none ∧ ((∃ o xs vs n, u = .frz o (.lst xs) ∧ h.get? b = some { cls := .type "list", data := .seq vs n }) ∨ ((∃ p ∈ cs, p.2 = b) ∧ u = .tbl #[] ∧ h.get? b = some tab0))
theorem law_coreT {P : Program} {w : World} {K : PySem.W.Frag} {mg mb : Str → Option Value} {k : Nat} {fa a : Addr} {fd : FuncData} {x : Str} {sp : Sp} {s₁ : Shared} {H : Hp} {CX : CXT} {cs : List (Addr × Addr)}
    (hns : s₁.heap.Ns mainGlobals mg) (hb : s₁.heap.Ns builtinsNs mb) (hbb : ∀ x : Str, x ≠ "__name__" → mb x = bootBuiltins x) (hlim : s₁.heap.NoLimit) (hg : s₁.gens = #[]) (KX : K.In s₁.heap)
    (hC : ∀ p ∈ cs, PySem.W.CodeHd s₁.heap p.1 p.2) (hM : ∃ (m : Addr) (o : Obj), mg "__builtins__" = some (.ref m) ∧ m ≠ builtinsNs ∧ s₁.heap.get? m = some o ∧ o.cls = .type "module" ∧ o.dict = some builtinsNs ∧ o.data = .plain)
    (hr : Room k callerA) (hdig : NoDig s₁.heap) (F : ∀ base : Heap, K.In base → base.Ns mainGlobals mg → NoDig base → (∀ p ∈ cs, LamX.TabB base mg p.1 p.2) → FnG P w K mg base CX k fa fd [x] sp) (hbind : ∀ (s : Shared) (u : Value), BindsTo s fd ⟨[u], []⟩ [(x, u)])
    (hsp : sp [.ref a] H (fun v _ => v = .bl true) fun _ _ _ => False) (hCX : ∀ e s', CX [] H s₁ (fun _ _ _ => False) e s' → False) (N : Entry K s₁.heap cs H) (hok : HOk P w H s₁.heap) :
    codeAny (model P w) callerA (.call (.ref fa) ⟨[.ref a], []⟩) (fun r s' => r = .ok (.ret (.bool true)) ∧ OldK s₁.heap s'.heap ∧ s'.os = s₁.os ∧ AllBare s'.gens) s₁ := by
  -- what is neither a list nor an empty table is not tracked
  have free : ∀ {b : Addr} {o : Obj}, s₁.heap.get? b = some o → (∀ vs n, o ≠ { cls := .type "list", data := .seq vs n }) → o ≠ tab0 → H b = none := fun {b o} e n1 n2 => by
    cases q : H b with
    | none => rfl
    | some u =>
      rcases (N.cases_ b u q).2 with ⟨_, _, vs, n, _, z⟩ | ⟨_, _, z⟩
      · rw [e] at z; cases z; exact absurd rfl (n1 vs n)
      · rw [e] at z; cases z; exact absurd rfl n2
  have there : ∀ {b : Addr} {o : Obj}, s₁.heap.get? b = some o → (∀ vs n, o ≠ { cls := .type "list", data := .seq vs n }) → o ≠ tab0 → (hidT s₁.heap H).get? b = some o := fun e n1 n2 => hidT_get e (free e n1 n2)
  have stays : ∀ {b : Addr} {m : Str → Option Value}, s₁.heap.Ns b m → (hidT s₁.heap H).Ns b m := by
    rintro b m ⟨o, es, ep, e, d, r⟩
    exact ⟨o, es, ep, there e (fun vs n z => by rw [z] at d; cases d) (fun z => by rw [z] at d; cases d), d, r⟩
  have inB : K.In (hidT s₁.heap H) := by
    intro b o e
    refine hidT_get (KX b o e) ?_
    cases q : H b with
    | none => rfl
    | some u => rw [(N.cases_ b u q).1] at e; cases e
  have dig2 : NoDig (hidT s₁.heap H) := let ⟨mc, h1, h2⟩ := hdig; ⟨mc, stays h1, h2⟩
  have lim2 : (hidT s₁.heap H).NoLimit := let ⟨mc, h1, h2⟩ := hlim; ⟨mc, stays h1, h2⟩
  have glob : ∀ {b : Addr} {o : Obj}, s₁.heap.get? b = some o → (∀ es ep, o.data ≠ .dict es ep) → b ≠ mainGlobals := fun {b o} e n z => by
    obtain ⟨o2, es, ep, e2, d, _⟩ := hns
    rw [z, e2] at e; cases e; exact n es ep d
  have TB : ∀ p ∈ cs, LamX.TabB (hidT s₁.heap H) mg p.1 p.2 := fun p hp => by
    have atP : s₁.heap.get? p.2 = some tab0 := by
      rcases (N.cases_ _ _ (N.tab p hp)).2 with ⟨_, _, _, _, z, _⟩ | ⟨_, _, z⟩
      · cases z
      · exact z
    refine ⟨?_, ?_, fun z => glob atP (fun es ep => by simp) z.symm⟩
    · obtain ⟨o, vs, file, tf, fl, tg, inF, tx, tt, e, cl, r⟩ := hC p hp
      exact ⟨o, vs, file, tf, fl, tg, inF, tx, tt, there e (fun vs n z => by rw [z] at cl; simp at cl) (fun z => by rw [z] at cl; cases cl), cl, r⟩
    · obtain ⟨m, o, b1, b2, b3, b4, b5, b6⟩ := hM
      refine ⟨m, o, b1, b2, glob b3 (fun es ep z => by rw [b6] at z; cases z), fun z => ?_, there b3 (fun vs n z => by rw [z] at b6; cases b6) (fun z => by rw [z] at b6; cases b6), b4, b5, b6⟩
      rw [z, atP] at b3; cases b3; cases b6
  have e0 : Env0 P w K mg (hidT s₁.heap H) callerA [] s₁ H :=
    { frames := rfl, mod := ⟨inB, stays hns, ⟨mb, stays hb, hbb⟩, lim2⟩, bs := fun b o e => of_hidT e, bsz := Nat.le_of_eq (hidT_size _ _), funs := trivial, frf := fun b z => (by cases z), hok := hok, bare := .of_eq hg }
  refine codeAny_mono ((F _ inB (stays hns) dig2 TB).run callerA [] s₁ H ⟨[.ref a], []⟩ [.ref a] [.ref a] _ _ hr rfl e0 (hbind s₁ (.ref a)) (.cons rfl .nil) hsp) fun r s' h => ?_
  match r, h with
  | .error e, h => exact (hCX e s' h).elim
  | .ok .next, h => exact h.elim
  | .ok .brk, h => exact h.elim
  | .ok .cont, h => exact h.elim
  | .ok (.ret u), ⟨v, H', os, bare, un, hok', r', q⟩ =>
    have q' : v = .bl true := q
    subst q'
    cases r'
    have both : ∀ b o, s₁.heap.get? b = some o → s'.heap.get? b = some o ∨ ((∃ p ∈ cs, p.2 = b) ∧ o = tab0 ∧ ∃ more : Array Value, s'.heap.get? b = some { cls := .none, data := .fields more }) := fun b o e => by
      cases qb : H b with
      | none => exact .inl (un.keep b o e qb (fun z => nomatch z) fun z => nomatch z)
      | some u =>
        rcases (N.cases_ b u qb).2 with ⟨ob, xs, vs, n, rfl, z⟩ | ⟨hp, rfl, z⟩
        · have h1 := (hok b _ qb).1
          rw [e] at h1; cases h1
          exact .inl (hok' b _ (un.frzs b _ _ qb)).1
        · rw [e] at z; cases z
          obtain ⟨more, hm⟩ := un.tbls b #[] qb
          exact .inr ⟨hp, rfl, _, hok' b _ hm⟩
    refine ⟨rfl, ⟨fun b o e => ?_, fun b o e => ?_⟩, os, bare⟩
    · rcases both b o e with z | ⟨⟨p, hp, rfl⟩, rfl, more, hm⟩
      · exact .inl z
      · exact .inr (.inl ⟨((hC p hp).tab e).isCodeTable, rfl, #[], more, rfl, by rw [Array.empty_append]; exact hm⟩)
    · rcases both b o e with z | ⟨_, _, more, hm⟩
      · exact ⟨_, z⟩
      · exact ⟨_, hm⟩
theorem law_callT {P : Program} {w : World} {K : PySem.W.Frag} {mg mb : Str → Option Value} {k : Nat} {fa a : Addr} {fd : FuncData} {x : Str} {sp : Sp} {s₁ : Shared} {vs : List Value} {ns : List Int} {CX : CXT} {cs : List (Addr × Addr)}
    (KX : K.In s₁.heap) (hns : s₁.heap.Ns mainGlobals mg) (hb : s₁.heap.Ns builtinsNs mb) (hbb : ∀ x : Str, x ≠ "__name__" → mb x = bootBuiltins x) (hlim : s₁.heap.NoLimit) (hg : s₁.gens = #[])
    (hT : ∀ p ∈ cs, s₁.heap.get? p.2 = some tab0 ∧ K.lookup p.2 = none ∧ PySem.W.CodeHd s₁.heap p.1 p.2) (hM : ∃ (m : Addr) (o : Obj), mg "__builtins__" = some (.ref m) ∧ m ≠ builtinsNs ∧ s₁.heap.get? m = some o ∧ o.cls = .type "module" ∧ o.dict = some builtinsNs ∧ o.data = .plain)
    (ha : s₁.heap.get? a = some { cls := .type "list", data := .seq vs.toArray }) (hi : IntsAre vs ns) (hl : ns.length ≤ sizeLine) (hr : Room k callerA)
    (hdig : NoDig s₁.heap) (F : ∀ base : Heap, K.In base → base.Ns mainGlobals mg → NoDig base → (∀ p ∈ cs, LamX.TabB base mg p.1 p.2) → FnG P w K mg base CX k fa fd [x] sp) (hbind : ∀ (s : Shared) (u : Value), BindsTo s fd ⟨[u], []⟩ [(x, u)])
    (hsp : ∀ H : Hp, (∀ p ∈ cs, H p.2 = some (.tbl #[])) → ScrR K (fun _ => False) H a ns → sp [.ref a] H (fun v _ => v = .bl true) fun _ _ _ => False) (hCX : ∀ H e s', CX [] H s₁ (fun _ _ _ => False) e s' → False) :
    codeAny (model P w) callerA (.call (.ref fa) ⟨[.ref a], []⟩) (fun r s' => r = .ok (.ret (.bool true)) ∧ OldK s₁.heap s'.heap ∧ s'.os = s₁.os ∧ AllBare s'.gens) s₁ := by
  have rv := vals_ints hi
  let isT : Addr → Bool := fun b => cs.any fun p => decide (p.2 = b)
  have isT_ : ∀ {b}, isT b = true → ∃ p ∈ cs, p.2 = b := fun {b} h => by
    obtain ⟨p, hp, e⟩ := List.any_eq_true.mp h
    exact ⟨p, hp, of_decide_eq_true e⟩
  have T_is : ∀ p ∈ cs, isT p.2 = true := fun p hp => List.any_eq_true.mpr ⟨p, hp, decide_eq_true rfl⟩
  have notA : ∀ p ∈ cs, p.2 ≠ a := fun p hp z => by
    have := (hT p hp).1
    rw [z, ha] at this
    cases this
  have tblOk : ∀ b, isT b = true → K.lookup b = none ∧ s₁.heap.get? b = some tab0 := fun b h => by
    obtain ⟨p, hp, rfl⟩ := isT_ h
    exact ⟨(hT p hp).2.1, (hT p hp).1⟩
  cases hk : K.lookup a with
  | some o =>
    have e := KX a o hk
    rw [ha] at e; cases e
    have kn : SqL K (fun _ => none) a (ns.map V.int) := .inr ⟨_, vs.toArray, _, hk, rfl, rfl, rfl, by rw [List.size_toArray, hi.length]; exact hl, by simpa using rv⟩
    let HS : Hp := fun b => if isT b = true then some (.tbl #[]) else none
    have only : ∀ b u, HS b = some u → isT b = true ∧ u = .tbl #[] := fun b u z => by
      by_cases h : isT b = true
      · rw [show HS b = _ from if_pos h] at z; cases z; exact ⟨h, rfl⟩
      · rw [show HS b = none from if_neg h] at z; cases z
    have tabs : ∀ p ∈ cs, HS p.2 = some (.tbl #[]) := fun p hp => if_pos (T_is p hp)
    refine law_coreT (H := HS) hns hb hbb hlim hg KX (fun p hp => (hT p hp).2.2) hM hr hdig F hbind (hsp _ tabs (.inr kn)) (hCX _) ⟨tabs, fun b u z => ?_⟩ (fun b u z => ?_)
    · obtain ⟨h1, h2⟩ := only b u z
      exact ⟨(tblOk b h1).1, .inr ⟨isT_ h1, h2, (tblOk b h1).2⟩⟩
    · obtain ⟨h1, rfl⟩ := only b u z
      exact (tblOk b h1).2
  | none =>
    let S : Obj := { cls := .type "list", data := .seq vs.toArray }
    let HS : Hp := fun b => if b = a then some (.frz S (.lst (ns.map V.int))) else if isT b = true then some (.tbl #[]) else none
    have at_a : HS a = some (.frz S (.lst (ns.map V.int))) := if_pos rfl
    have only : ∀ b u, HS b = some u → (b = a ∧ u = .frz S (.lst (ns.map V.int))) ∨ (isT b = true ∧ u = .tbl #[]) := fun b u z => by
      by_cases e : b = a
      · rw [e, at_a] at z; cases z; exact .inl ⟨e, rfl⟩
      · have z1 : (if isT b = true then some (HO.tbl #[]) else none) = some u := (if_neg e).symm.trans z
        by_cases h : isT b = true
        · rw [if_pos h] at z1; cases z1; exact .inr ⟨h, rfl⟩
        · rw [if_neg h] at z1; cases z1
    have tabs : ∀ p ∈ cs, HS p.2 = some (.tbl #[]) := fun p hp => (if_neg (notA p hp)).trans (if_pos (T_is p hp))
    refine law_coreT (H := HS) hns hb hbb hlim hg KX (fun p hp => (hT p hp).2.2) hM hr hdig F hbind (hsp _ tabs (.inl ⟨⟨S, at_a⟩, fun z => z⟩)) (hCX _) ⟨tabs, fun b u z => ?_⟩ (fun b u z => ?_)
    · rcases only b u z with ⟨rfl, rfl⟩ | ⟨h1, rfl⟩
      · exact ⟨hk, .inl ⟨_, _, _, _, rfl, ha⟩⟩
      · exact ⟨(tblOk b h1).1, .inr ⟨isT_ h1, rfl, (tblOk b h1).2⟩⟩
    · rcases only b u z with ⟨rfl, rfl⟩ | ⟨h1, rfl⟩
      · exact ⟨ha, by rw [List.length_map]; exact hl, vs, _, rv, ha⟩
      · exact (tblOk b h1).2
/-- the table and the code object of the def at fa, by what is known of it -/
def OwnC (K : PySem.W.Frag) (fa : Addr) (h : Heap) : Prop := ∀ (c P : Addr) (o : Obj) (fd : FuncData) (e : Value) (dd : Option Addr) (vs : Array Value) (sl : Array (Option Value)), K.lookup fa = some o → o.data = .func fd → fd.code = .ref c →
  K.lookup c = some ⟨e, dd, .fields vs, sl⟩ → vs[11]? = some (.ref P) → h.get? P = some tab0 ∧ PySem.W.CodeHd h c P
theorem walk_GL {l : PySem.W.OpenLaw} {n k : Nat} {q : Program} {loose : List Str} {XP : (Str → Option Value) → Heap → Prop} {YP : World → Heap → Prop} {d : DefRec} {K : Params → PySem.W.Frag} {CX : World → CXT} {F : FnD} {x : Str} {mk : List Str}
    (hn : l.most = some n) (hn2 : n ≤ sizeLine) (hdf : d.params.defaults = []) (hr : Room k callerA) (hY : ∀ (w : World) (h : Heap), YP w h → (K w.params).In h) (hmk : (mk.all fun x => (recsOf q).any fun e => decide (e.name = x)) = true)
    (hF : ∀ (w : World) (mg : Str → Option Value) (fa : Addr) (h : Heap), (K w.params).In h → h.Ns mainGlobals mg → mg d.name = some (.ref fa) → (∀ x ∈ mk, ∀ f, mg x = some (.ref f) → OwnC (K w.params) f h) →
      ∃ (fd : FuncData) (G : Gm) (cs : List (Addr × Addr)), G.K = K w.params ∧ G.tk = none ∧ (∀ p ∈ G.T, ∃ c, (c, p.1) ∈ cs) ∧ (∀ p ∈ cs, h.get? p.2 = some tab0 ∧ (K w.params).lookup p.2 = none ∧ PySem.W.CodeHd h p.1 p.2) ∧ (∀ (s : Shared) (u : Value), BindsTo s fd ⟨[u], []⟩ [(x, u)]) ∧
        ∀ base : Heap, (K w.params).In base → base.Ns mainGlobals mg → NoDig base → (∀ p ∈ cs, LamX.TabB base mg p.1 p.2) → FnG l.prog w (K w.params) mg base (CX w) k fa fd [x] (spD G 1 F))
    (hlaw : ∀ ns : List Int, ns.length ≤ n → (∀ m ∈ ns, bits m ≤ 1048576) → ∃ ρ, F [.scr (.nums ns)] = .ok (.shr (.bool true)) ρ)
    (hCX : ∀ (w : World) (H : Hp) (s : Shared) (e : Value) (s' : Shared), CX w [] H s (fun _ _ _ => False) e s' → False) :
    PySem.W.WalkO q loose XP YP l.row.toRowW d [] (fun f vs => PySem.call f vs) := by
  refine Att.attach_callB hn hdf fun w s₀ s₁ mg mb fa o pm cd doc a vs ns Gr Y ho hd hcd hmg hobj hints hlen hbits hg => ?_
  have KX := hY w _ Y
  have own : ∀ x ∈ mk, ∀ f, mg x = some (.ref f) → OwnC (K w.params) f s₁.heap := fun x hx f hf c P o1 fd1 e dd vs1 sl k1 k2 k3 k4 k5 => by
    obtain ⟨dx, h1, h2⟩ := List.any_eq_true.mp (List.all_eq_true.mp hmk x hx)
    obtain ⟨a', o', fd', c', P', g1, g2, g3, g4, g5, g6⟩ := Gr.T.tab dx h1
    rw [of_decide_eq_true h2, hf] at g1
    cases g1
    rw [KX _ _ k1] at g2
    cases g2
    rw [k2] at g3
    cases g3
    rw [k3] at g4
    cases g4
    have hd := PySem.W.CodeHd.of g5 g6
    obtain ⟨⟨oc, vc, e1, e2, e3, e4⟩, hP⟩ := g6
    rw [KX _ _ k4] at e1
    cases e1
    cases e3
    rw [k5] at e4
    cases e4
    exact ⟨hP, hd⟩
  obtain ⟨fd, G, cs, hGK, hk0, hTc, hcs, hb, hFn⟩ := hF w mg fa _ KX Gr.T.g hmg own
  refine law_callT KX Gr.T.g Gr.T.b Gr.T.builtins Gr.T.nolimit hg hcs Gr.T.bmain hobj hints (Nat.le_trans hlen hn2) hr Gr.T.nodigits hFn hb (fun H hH hs => ?_) fun H e s' => hCX w H s₁ e s'
  refine ⟨rfl, fun _ => False, fun _ => none, [.scr (.nums ns)], ⟨rfl, fun i => ?_, fun i j b e => (by cases e), fun i b e => (by cases e), fun b z => z.elim, fun i b e => (by cases e), fun i b e => (by cases e), ⟨fun p hp => ?_, fun T e => (by rw [hk0] at e; cases e)⟩⟩, ?_⟩
  · match i with
    | 0 => exact ⟨a, rfl, show ScrR G.K _ _ _ _ by rw [hGK]; exact hs.mono kp0 fun b z => z.elim False.elim fun ⟨j, e⟩ => (by cases e)⟩
    | i + 1 => trivial
  · obtain ⟨c, hc⟩ := hTc p hp
    exact LamX.TabS.nil (hH _ hc)
  · obtain ⟨ρ, e⟩ := hlaw ns hlen (fun m hm => by
      have h := hbits m hm
      unfold Builtin.Int.intBits at h
      unfold bits
      split at h <;> rename_i h0
      · have e0 : m = 0 := by simpa using h0
        subst e0; decide
      · omega)
    rw [e]
    intro v H' _ _ f
    cases f
    rfl
end DL

namespace DL
open PySem PySem.Spec PyProof.Rows L2
/-! ### equations for functions made by a lambda -/
def nvW (Q : RV → Ev → Prop) (ρ : Ev) : RV → Ev → Prop
  | .shr d, _ => Q (.shr d) ρ
  | .tmp d, _ => Q (.tmp d) ρ
  | .var _, _ => False
theorem nvW_shr {Q : RV → Ev → Prop} {ρ ρ1 : Ev} {d : PyData} : nvW Q ρ (.shr d) ρ1 = Q (.shr d) ρ := rfl
theorem nvW_tmp {Q : RV → Ev → Prop} {ρ ρ1 : Ev} {d : PyData} : nvW Q ρ (.tmp d) ρ1 = Q (.tmp d) ρ := rfl
theorem wp_endL {Q : RV → Ev → Prop} {ρ : Ev} {v : U Q} : ∀ {r : Ro RV}, Wp (endL ρ r) Q v = Wp r (nvW Q ρ) ⟨⟩
  | .bad => wp_bad.trans wp_bad.symm
  | .exc x _ => by
    show Wp (.exc x ρ) Q v = _
    refine propext ⟨fun h => ?_, fun h => ?_⟩ <;> obtain ⟨_, _, e, _⟩ := h <;> cases e
  | .ok (.shr d) _ => by
    rw [wp_ok]; exact wp_ok
  | .ok (.tmp d) _ => by
    rw [wp_ok]; exact wp_ok
  | .ok (.var _) ρ1 => by
    rw [wp_ok]
    exact wp_bad
theorem wp_callL {F : TR → FnD} {eb : EvE} {ρ : Ev} {Q : RV → Ev → Prop} {v : U Q} :
    Wp (eCallL F eb ρ) Q v = Wx (eEsc eb (ρ.map capS)) (fun r _ => shrW (fun d => Wp (F (.ok d) [.scr .thk]) (nvW Q ρ) ⟨⟩) r) (fun x _ => Wp (F (.exc x) [.scr .thk]) (nvW Q ρ) ⟨⟩) ⟨⟩ := by
  unfold eCallL
  cases eEsc eb (ρ.map capS) with
  | bad => exact wp_bad
  | exc x ρ1 => exact wp_endL
  | ok r ρ1 =>
    cases r with
    | shr d => exact wp_endL
    | tmp _ => exact wp_bad
    | var _ => exact wp_bad
theorem eThk_ {t : TR} {i : Nat} {ρ : Ev} : eThk t i ρ = thR t ρ (look ρ i) := rfl
theorem thR_ok {d : PyData} {ρ : Ev} : thR (.ok d) ρ (.scr .thk) = .ok (.shr d) ρ := rfl
theorem thR_exc {x : Ex} {ρ : Ev} : thR (.exc x) ρ (.scr .thk) = .exc x ρ := rfl
theorem capS_frz {d : PyData} : capS (.dat d .frz) = .dat d .frz := rfl
theorem capS_own {d : PyData} : capS (.dat d .own) = .non := rfl
theorem capS_par {d : PyData} : capS (.dat d .par) = .non := rfl
theorem capS_nums {ns : List Int} : capS (.scr (.nums ns)) = .scr (.nums ns) := rfl
theorem capS_err {x : Ex} : capS (.scr (.err x)) = .non := rfl
theorem capS_thk : capS (.scr .thk) = .non := rfl
theorem capS_non : capS .non = .non := rfl
section
variable {X : Cx} {G : Gm} {W : Wi}
theorem dt_isN {i : Nat} {x : Str} {px pos : Pos} {j p2} (hv : PE X (.Name x px) (tVar i)) : DT X G W (.Compare (.Name x px) [.Is] [.Constant .none j p2] pos) (tV (eIsN i false)) :=
  ⟨PT_imp (pt_cmpR op_isN hv pe_non (nomark _)) fun σ H Q ⟨Z, B, ρ, A, R, d⟩ => by
    obtain ⟨Z', B', ρ', A', R', d'⟩ := tv_ok R d
    obtain ⟨v, h1, h2⟩ := isn_ok R' d'
    exact ⟨v, h1, rfl, h2⟩⟩
theorem dt_isNN {i : Nat} {x : Str} {px pos : Pos} {j p2} (hv : PE X (.Name x px) (tVar i)) : DT X G W (.Compare (.Name x px) [.IsNot] [.Constant .none j p2] pos) (tV (eIsN i true)) :=
  ⟨PT_imp (pt_cmpR op_notN hv pe_non (nomark _)) fun σ H Q ⟨Z, B, ρ, A, R, d⟩ => by
    obtain ⟨Z', B', ρ', A', R', d'⟩ := tv_ok R d
    obtain ⟨v, h1, h2⟩ := isn_ok R' d'
    exact ⟨v, h1, rfl, h2⟩⟩
end
theorem room66 {k : Nat} {A : Around} (h : Room k A) : A.units + 66 < cLine := by have := h.un; omega
end DL

namespace DL
open PySem PySem.Spec PyProof.Rows L2
/-! ### text * int -/
def repS (x : Str) (n : Nat) : Str := ⟨(List.replicate n x.cps).foldl (· ++ ·) #[]⟩
def gMulS : G2
  | .str x, .int n => if 2 ≤ n ∧ n ≤ 1000 ∧ 0 < x.length ∧ x.length ≤ 1000 then .val (.str (repS x n.toNat)) else .bad
  | _, _ => .bad
def rMulStr : R2 := fun x y H Q => ∃ a n, x = .str a ∧ y = .int n ∧ 2 ≤ n ∧ n ≤ 1000 ∧ 0 < a.length ∧ a.length ≤ 1000 ∧ Q (.str (repS a n.toNat)) H
theorem fold_size : ∀ (n : Nat) (a acc : Array Nat), ((List.replicate n a).foldl (· ++ ·) acc).size = acc.size + n * a.size
  | 0, a, acc => by simp
  | n + 1, a, acc => by
    rw [List.replicate_succ, List.foldl_cons, fold_size n a, Array.size_append, Nat.succ_mul]
    omega
theorem repS_len (x : Str) (n : Nat) : (repS x n).length = n * x.length := by
  show ((List.replicate n x.cps).foldl (· ++ ·) #[]).size = _
  rw [fold_size]
  show 0 + n * x.cps.size = _
  rw [Nat.zero_add]; rfl
theorem op_mulStr {X : Cx} : OpR X (binaryOp .Mult) rMulStr := by
  intro pins s σ H x y v u Q I rx ry h
  obtain ⟨a, n, rfl, rfl, h1, h2, h3, h4, q⟩ := h
  obtain ⟨t, rfl⟩ := rx
  obtain ⟨t2, rfl⟩ := ry
  have n1 : (n == 1) = false := beq_eq_false_iff_ne.mpr (by omega)
  have n2 : (a.length == 0) = false := beq_eq_false_iff_ne.mpr (by omega)
  have hb : a.length * n.toNat ≤ 1000 * 1000 := Nat.mul_le_mul h4 (by omega)
  refine PySem.P.mul_str (by rw [decide_eq_false (by omega), decide_eq_false (by omega)]; rfl) (fun _ _ => ?_) (fun _ _ => ?_) ?_
  · have : ((a.length : Nat) : Int) ≤ (2 ^ 63 - 1) / n := (Int.le_ediv_iff_mul_le (by omega)).mpr (by
      have : ((a.length : Nat) : Int) * n ≤ 1000 * n := Int.mul_le_mul_of_nonneg_right (by omega) (by omega)
      omega)
    omega
  · unfold PySem.Builtin.Str.tooLong
    rw [sizeLine_eq]
    exact decide_eq_false (by omega)
  · have n3 : ¬ n < 1 := by omega
    rw [if_neg n3, n1, n2, if_neg (show ¬ ((false || false) = true) by decide)]
    have hl : (repS a n.toNat).length ≤ sizeLine := by
      rw [repS_len, sizeLine_eq, Nat.mul_comm]
      omega
    exact ⟨hl, .str (repS a n.toNat), H, I.tok _, ⟨s.toks, rfl⟩, q⟩
theorem op_mulStrS : Op2S rMulStr gMulS := by
  intro O H x y dx dy Q hO hx hy h
  cases dx <;> cases dy <;> try exact False.elim h
  rename_i a n
  by_cases c : 2 ≤ n ∧ n ≤ 1000 ∧ 0 < a.length ∧ a.length ≤ 1000
  · simp only [gMulS, if_pos c] at h
    exact ⟨a, n, hx, hy, c.1, c.2.1, c.2.2.1, c.2.2.2, h _ H (.refl _) (.str _)⟩
  · simp only [gMulS, if_neg c] at h; exact h.elim
/-! ### tuple * int -/
theorem tup_mul1 (l : Addr) (items : Array Value) (n : Nat) (dd : Option Addr) (sl : Array (Option Value)) (u : Tok) :
    Meets (Builtin.«tuple.__mul__» ⟨[.ref l, .int 1 u], []⟩) (fun _ R s => s.heap.get? l = some { cls := .type "tuple", dict := dd, data := .seq items n, slots := sl } ∧ R (.ok (.ret (Value.ref l))) s) :=
  .of_wp fun prog w A R s h => by
    obtain ⟨hp, g, d, tk, os⟩ := s
    obtain ⟨hl, h⟩ := h
    have f1 := AutoSeq1.idx_int
    have c1 : (items.isEmpty || (1 : Int) == 1) = true := by simp
    wp_walk using wpAny_loadPart' hl
    repeat (first
      | (refine wpAny_ite_true (decide_eq_true c1) ?_; wp_walk using wpAny_loadPart' hl)
      | (refine wpAny_ite_false (decide_eq_false (by decide)) ?_; wp_walk using wpAny_loadPart' hl))
    exact ⟨_, rfl, h⟩
def rRepN (K : PySem.W.Frag) : R2 := fun x y H Q => ∃ l k xs, x = .ref l ∧ y = .int k ∧ SqT K H l xs ∧ ((k = 1 ∧ Q (.ref l) H) ∨ (xs ≠ [] ∧ 2 ≤ k ∧ k ≤ 1000 ∧ xs.length ≤ 1000 ∧ NewT H (List.replicate k.toNat xs).flatten Q))
theorem op_repN {X : Cx} : OpR X (binaryOp .Mult) (rRepN X.K) := by
  intro pins s σ H x y v u Q I rx ry h
  obtain ⟨l, k, xs, rfl, rfl, hT, h⟩ := h
  obtain rfl : v = Value.ref l := rx
  obtain ⟨t, rfl⟩ := ry
  obtain ⟨its, r, ⟨⟨cls, dd, data, sl⟩, ho, hc, n, hd⟩, hs⟩ := I.tuple hT
  obtain rfl : cls = .type "tuple" := hc
  obtain rfl : data = .seq its.toArray n := hd
  rcases h with ⟨rfl, q⟩ | ⟨hne, k2, kM, xM, q⟩
  · exact wpAny_binaryOp_repeat_ref (T := "tuple") (U := "int") (by decide) ⟨_, ho, rfl⟩ (fun s' => typeIs_int s' 1 t) noFill_tuple_mul F.fills_int_mul F.slot_int_rmul repeat_tuple F.slot_int_index.lookup
      (call_meets F.slot_int_rmul (typeIs_int s 1 t) F.entry_int_rmul (F.args_int_rmul_2 _ _) (int_rmul_tuple 1 t l its.toArray n dd sl)
        ⟨ho, rfl, ⟨_, ho, rfl⟩, call_meets F.slot_tuple_mul ⟨_, ho, rfl⟩ F.entry_tuple_mul (F.args_tuple_mul_2 _ _) (tup_mul1 l its.toArray n dd sl t) ⟨ho, .ref l, H, I, rfl, q⟩⟩)
  · have hl : its.length = xs.length := r.length.symm
    have full : its.toArray.isEmpty = false := by
      cases its with
      | nil => exact absurd (List.eq_nil_of_length_eq_zero hl.symm) hne
      | cons a b => rfl
    have sz : its.toArray.size = xs.length := by rw [List.size_toArray, hl]
    have few : ((its.toArray.size : Nat) : Int) * k ≤ 1000000 := by
      rw [sz]
      have : ((xs.length : Nat) : Int) * k ≤ 1000 * k := Int.mul_le_mul_of_nonneg_right (by omega) (by omega)
      omega
    have fl : ∀ {α : Type} (zs : List α), zs.length ≤ 1000 → (List.replicate k.toNat zs).flatten.length ≤ sizeLine := fun zs hz => by
      rw [PyProof.Rows.lm_len_rep_flat, sizeLine_eq]
      have : k.toNat * zs.length ≤ 1000 * 1000 := Nat.mul_le_mul (by omega) hz
      omega
    have d1 : (decide (k < -(2 ^ 63)) || decide (k ≥ 2 ^ 63)) = false := by rw [decide_eq_false (by omega), decide_eq_false (by omega)]; rfl
    have d2 : (its.toArray.isEmpty || k == 1) = false := by rw [full, Bool.false_or]; exact beq_eq_false_iff_ne.mpr (by omega)
    have d3 : (decide (k ≤ 0) || its.toArray.isEmpty) = false := by rw [full, Bool.or_false]; exact decide_eq_false (by omega)
    have d4 : Builtin.Tuple.tupleTooMany (((its.toArray.size : Nat) : Int) * k) = false := by
      unfold Builtin.Tuple.tupleTooMany
      rw [sizeLine_eq]
      exact decide_eq_false (by omega)
    refine wpAny_binaryOp_repeat_ref (T := "tuple") (U := "int") (by decide) ⟨_, ho, rfl⟩ (fun s' => typeIs_int s' k t) noFill_tuple_mul F.fills_int_mul F.slot_int_rmul repeat_tuple F.slot_int_index.lookup
      (call_meets F.slot_int_rmul (typeIs_int s k t) F.entry_int_rmul (F.args_int_rmul_2 _ _) (int_rmul_tuple k t l its.toArray n dd sl)
        ⟨ho, rfl, ⟨_, ho, rfl⟩, call_meets F.slot_tuple_mul ⟨_, ho, rfl⟩ F.entry_tuple_mul (F.args_tuple_mul_2 _ _) (tuple_mulW l its.toArray n dd sl k t d1 d2 d3 (by omega) d4 (by rw [size_rep, List.size_toArray]; exact fl its (by omega))) ⟨ho, ?_⟩⟩)
    rw [size_rep]
    exact lay_T (h' := s.heap) (tk := s.toks) I (fun _ _ e => e) (fl xs xM) (r.rep k.toNat) q
def gMulT : G2
  | .tuple a, .int n => if n = 1 then .val (.tuple a) else if a ≠ [] ∧ 2 ≤ n ∧ n ≤ 1000 ∧ a.length ≤ 1000 then .val (.tuple (List.replicate n.toNat a).flatten) else .bad
  | _, _ => .bad
theorem op_repNS {K : PySem.W.Frag} : Op2S (rRepN K) gMulT := by
  intro O H x y dx dy Q hO hx hy h
  cases dx <;> cases dy <;> try exact False.elim h
  rename_i a n
  obtain ⟨p, xs, rfl, e1, n1, f1⟩ := hx
  by_cases c : n = 1
  · subst c
    simp only [gMulT, if_true] at h
    exact ⟨p, 1, xs, rfl, hy, e1.sq, .inl ⟨rfl, h _ H (.refl _) (.tup e1 n1 f1)⟩⟩
  · by_cases hl : a ≠ [] ∧ 2 ≤ n ∧ n ≤ 1000 ∧ a.length ≤ 1000
    · simp only [gMulT, if_neg c, if_pos hl] at h
      refine ⟨p, n, xs, rfl, hy, e1.sq, .inr ⟨fun z => ?_, hl.2.1, hl.2.2.1, by rw [f1.len]; exact hl.2.2.2, fun q o hn ho => h _ _ (.new hn) (.newT ho hO hn (f1.rep _))⟩⟩
      have := f1.len
      rw [z] at this
      exact hl.1 (List.eq_nil_of_length_eq_zero this.symm)
    · simp only [gMulT, if_neg c, if_neg hl] at h; exact h.elim
/-! ### int(text) -/
theorem wp_limit {M : Model} {A : Around} {E : Value → Shared → Prop} {s : Shared} {Q : Nat → Shared → Prop} (d : NoDig s.heap) (h : Q 4300 s) : wpAny M A Builtin.intMaxStrDigits Q E s := by
  obtain ⟨mc, h1, h2⟩ := d
  unfold Builtin.intMaxStrDigits
  refine wpAny_bind (wpAny_nsGet h1 ?_)
  rw [h2]
  exact wpAny_pure h
theorem wp_longText {M : Model} {A : Around} {E : Value → Shared → Prop} {s : Shared} {Q : Value → Shared → Prop} {v : Value} {text : List Nat} {n : Int} (d : NoDig s.heap)
    (hs : ¬ (text.takeWhile (· != 0)).length ≤ 640) (hr : (int_private% "readNumeral") 4300 10 (text.takeWhile (· != 0)) = (int_private% "Numeral.value") n)
    (ha : ((text.takeWhile (· != 0)).length == text.length) = true) (h : Q (.int n s.toks) { s with toks := s.toks + 1 }) :
    wpAny M A ((int_private% "intFromText") v text 10) Q E s := by
  obtain ⟨hp, g, dr, tk, os⟩ := s
  have lim : ∀ {Q : Nat → Shared → Prop}, Q 4300 ⟨hp, g, dr, tk, os⟩ → wpAny M A Builtin.intMaxStrDigits Q E ⟨hp, g, dr, tk, os⟩ := fun q => wp_limit d q
  repeat (any_goals (first
    | assumption
    | (with_reducible refine wpAny_ite_false (decide_eq_false hs) ?_)
    | (with_reducible refine wpAny_ite_true (decide_eq_true ha) ?_)
    | (with_reducible refine lim ?_)
    | wp_step))
  all_goals (try rw [hr])
  all_goals (try dsimp only)
  repeat (any_goals (first
    | assumption
    | (with_reducible refine wpAny_ite_true (decide_eq_true ha) ?_)
    | wp_step))
/-- 10 ** 900, as a text and as a number -/
def bigS : Str := Str.ofString "1" ++ repS (Str.ofString "0") 900
def bigN : Int := ((10 ^ 900 : Nat) : Int)
/-- the number that a text writes, as int(..) reads it -/
def txtI (x : Str) : Option Int := if x.length ≤ 640 then PySem.intText? x else if x = bigS then some bigN else none
structure Hd (p : Prop) : Prop where
  out : p
theorem int_long {x : Str} {n : Int} (u : Tok) (hn : ((int_private% "readNumeral") 4300 10 (PySem.numSeenOf x) = (int_private% "Numeral.value") n ∧ ((PySem.numSeenOf x).length == (PySem.numTextOf x).length) = true) ∧ ¬ (PySem.numSeenOf x).length ≤ 640) :
    Meets (Builtin.«int.__new__» ⟨[.type "int", .str x u], []⟩) (fun _ R s => NoDig s.heap ∧ R (.ok (.ret (.int n s.toks))) { s with toks := s.toks + 1 }) :=
  .of_wp fun prog w A R s h => by
    obtain ⟨d, h⟩ := h
    have hk := Hd.mk (And.intro d (And.intro hn.1.1 (And.intro hn.1.2 hn.2)))
    have hq := Hd.mk h
    clear d h hn
    obtain ⟨hp, g, dr, tk, os⟩ := s
    have f1 := F.conv_sub_int
    have f2 := F.madeHere_int
    have f3 := PySem.W.KIN.str_int
    have f4 := PySem.W.KIN.str_idx
    have f5 := PySem.W.KIN.str_trunc
    have f6 : typeOf (.str x u) = pure (.type "str") := rfl
    repeat (any_goals (first
      | assumption
      | ((with_reducible show wpAny _ _ ((int_private% "intFromText") _ _ _) _ _ _); refine wp_longText hk.out.1 hk.out.2.2.2 hk.out.2.1 hk.out.2.2.1 ?_)
      | wp_step))
    all_goals first | exact ⟨_, rfl, hq.out⟩ | skip
def bigL : List Nat := 49 :: List.replicate 900 48
theorem fold_list : ∀ (n : Nat) (a acc : Array Nat), ((List.replicate n a).foldl (· ++ ·) acc).toList = acc.toList ++ (List.replicate n a.toList).flatten
  | 0, a, acc => by simp
  | n + 1, a, acc => by
    rw [List.replicate_succ, List.foldl_cons, fold_list n a, Array.toList_append, List.replicate_succ, List.flatten_cons, List.append_assoc]
theorem big_list : bigS.cps.toList = bigL := by
  have h1 : (Str.ofString "1").cps.toList = [49] := by decide +kernel
  have h2 : (Str.ofString "0").cps.toList = [48] := by decide +kernel
  have h3 : (repS (Str.ofString "0") 900).cps.toList = List.replicate 900 48 := by
    have := fold_list 900 (Str.ofString "0").cps #[]
    rw [h2] at this
    refine this.trans ?_
    rw [List.nil_append]
    decide +kernel
  show ((Str.ofString "1").cps ++ (repS (Str.ofString "0") 900).cps).toList = _
  rw [Array.toList_append, h1, h3]
  rfl
theorem big_all : ∀ c ∈ bigL, 48 ≤ c ∧ c ≤ 57 := fun c hc => by
  unfold bigL at hc
  rcases List.mem_cons.mp hc with e | e
  · omega
  · have := List.eq_of_mem_replicate e
    omega
theorem big_val : PySem.NumText.digitsVal bigL = 10 ^ 900 := by decide +kernel
theorem big_len : bigS.length = 901 := by
  have : bigS.cps.toList.length = 901 := by rw [big_list]; decide +kernel
  rw [Array.length_toList] at this
  exact this
theorem big_seen : PySem.numSeenOf bigS = bigL := by
  rw [(PySem.numText_signs fun c hc => .inr (big_all c (by rw [← big_list]; exact hc))).2, big_list]
theorem big_int : PySem.intText? bigS = some bigN := by
  have h := PySem.intText_digits (x := bigS) (fun c hc => big_all c (by rw [← big_list]; exact hc)) (by rw [big_list]; exact List.cons_ne_nil _ _) (by rw [big_len]; decide)
  rw [big_list, big_val] at h
  exact h
theorem big_reads : ((int_private% "readNumeral") 4300 10 (PySem.numSeenOf bigS) = (int_private% "Numeral.value") bigN ∧ ((PySem.numSeenOf bigS).length == (PySem.numTextOf bigS).length) = true) ∧ ¬ (PySem.numSeenOf bigS).length ≤ 640 := by
  refine ⟨?_, by rw [big_seen]; decide +kernel⟩
  rcases PySem.read4300 bigS (by rw [big_len, sizeLine_eq]; decide) with ⟨n, h1, h2, h3⟩ | ⟨h1, _⟩
  · rw [big_int] at h1
    cases h1
    exact ⟨h3, h2⟩
  · rw [big_int] at h1
    cases h1
def rIntTxt : List V → Hp → VK → Prop := fun xs H Q => ∃ a n, xs = [.str a] ∧ txtI a = some n ∧ Q (.int n) H
theorem call_intTxt {X : Cx} (d : NoDig X.base) : CallR X (.type "int") rIntTxt := by
  intro pins s σ H xs us Q I rs h
  obtain ⟨a, n, rfl, hn, h⟩ := h
  obtain ⟨u, rfl, t, rfl⟩ := vals1 rs
  unfold txtI at hn
  by_cases hl : a.length ≤ 640
  · rw [if_pos hl] at hn
    exact PySem.W.KIN.call_text hn hl ⟨.int n, H, I.tok _, ⟨s.toks, rfl⟩, h⟩
  · rw [if_neg hl] at hn
    by_cases e : a = bigS
    · rw [if_pos e] at hn
      have hn := Option.some.inj hn
      subst hn
      subst e
      have d1 : NoDig s.heap := let ⟨mc, h1, h2⟩ := d; ⟨mc, h1.keeps I.bk, h2⟩
      exact call_int_1 (int_long t big_reads) ⟨d1, typeIs_int _ _ _, .int bigN, H, I.tok _, ⟨s.toks, rfl⟩, h⟩
    · rw [if_neg e] at hn; cases hn
def gIntS : GN
  | [.str x] => match txtI x with
    | some n => .val (.int n)
    | none => .bad
  | _ => .bad
theorem call_intTxtS : CallS rIntTxt gIntS := by
  intro O H xs ds Q hO hv h
  match ds, hv, h with
  | [.str a], hv, h =>
    obtain ⟨x, rfl, hx⟩ := hv.one
    cases e : txtI a with
    | none =>
      have h : PRS O H Q (match txtI a with
        | some n => .val (.int n)
        | none => .bad) := h
      rw [e] at h; exact h.elim
    | some n =>
      have h : PRS O H Q (match txtI a with
        | some n => .val (.int n)
        | none => .bad) := h
      rw [e] at h
      exact ⟨a, n, by rw [show x = .str a from hx], e, h _ H (.refl _) (.int _)⟩
theorem txt_big : txtI bigS = some bigN := by
  have n : ¬ bigS.length ≤ 640 := by rw [big_len]; decide
  unfold txtI
  rw [if_neg n, if_pos (Eq.refl bigS)]
theorem gInt_big {x : Str} (h : txtI x = some bigN) : gIntS [.str x] = .val (.int bigN) := by
  show (match txtI x with
    | some n => PR.val (.int n)
    | none => .bad) = _
  rw [h]
theorem o_intBig : gIntS [.str (Str.ofString "1" ++ repS (Str.ofString "0") 900)] = .val (.int bigN) := by
  have h := txt_big
  unfold bigS at h
  exact gInt_big h
theorem o_addStr {x y : Str} : gAdd (.str x) (.str y) = if x.length + y.length ≤ 16777216 then .val (.str (x ++ y)) else .bad := rfl
theorem o_mulS {x : Str} {n : Int} : gMulS (.str x) (.int n) = if 2 ≤ n ∧ n ≤ 1000 ∧ 0 < x.length ∧ x.length ≤ 1000 then .val (.str (repS x n.toNat)) else .bad := rfl
theorem o_mulT {a : List PyData} {n : Int} : gMulT (.tuple a) (.int n) = if n = 1 then .val (.tuple a) else if a ≠ [] ∧ 2 ≤ n ∧ n ≤ 1000 ∧ a.length ≤ 1000 then .val (.tuple (List.replicate n.toNat a).flatten) else .bad := rfl
end DL

/-! DLZ: the equations, bound together (simp takes a conjunction apart) -/
namespace DL
open PySem PySem.Spec PyProof.Rows L2
theorem wq0 : type_of% (And.intro @bU_ok (And.intro @wp_bU (And.intro @wp_ok (And.intro @wp_bad (And.intro @wp_if (And.intro @if_F (And.intro @if_tt (And.intro @if_ff (And.intro @out_if (And.intro @out_val (And.intro @out_new (And.intro @out_bad (And.intro @look_end (And.intro @lk0 (And.intro @lk1 (And.intro @lk2 (And.intro @lk3 (And.intro @lk4 (And.intro @lk5 (And.intro @lk6 (And.intro @lk7 (And.intro @lk8 (And.intro @lk9 (And.intro @lk10 (And.intro @lk11 (And.intro @lk12 (And.intro @lk13 (And.intro @lk14 (And.intro @lk15 (And.intro @lk16 (And.intro @lk17 (And.intro @lk18 (And.intro @lk19 (And.intro @lk20 (And.intro @lk21 (And.intro @lk22 (And.intro @lk23 (And.intro @lk24 (And.intro @lk25 (@pt0)))))))))))))))))))))))))))))))))))))))) := And.intro @bU_ok (And.intro @wp_bU (And.intro @wp_ok (And.intro @wp_bad (And.intro @wp_if (And.intro @if_F (And.intro @if_tt (And.intro @if_ff (And.intro @out_if (And.intro @out_val (And.intro @out_new (And.intro @out_bad (And.intro @look_end (And.intro @lk0 (And.intro @lk1 (And.intro @lk2 (And.intro @lk3 (And.intro @lk4 (And.intro @lk5 (And.intro @lk6 (And.intro @lk7 (And.intro @lk8 (And.intro @lk9 (And.intro @lk10 (And.intro @lk11 (And.intro @lk12 (And.intro @lk13 (And.intro @lk14 (And.intro @lk15 (And.intro @lk16 (And.intro @lk17 (And.intro @lk18 (And.intro @lk19 (And.intro @lk20 (And.intro @lk21 (And.intro @lk22 (And.intro @lk23 (And.intro @lk24 (And.intro @lk25 (@pt0)))))))))))))))))))))))))))))))))))))))
theorem wq1 : type_of% (And.intro @pt1 (And.intro @pt2 (And.intro @pt3 (And.intro @pt4 (And.intro @pt5 (And.intro @pt6 (And.intro @pt7 (And.intro @pt8 (And.intro @pt9 (And.intro @pt10 (And.intro @pt11 (And.intro @pt12 (And.intro @pt13 (And.intro @pt14 (And.intro @pt15 (And.intro @pt16 (And.intro @pt17 (And.intro @pt18 (And.intro @pt19 (And.intro @pt20 (And.intro @pt21 (And.intro @pt22 (And.intro @pt23 (And.intro @pt24 (And.intro @pt25 (And.intro @res_shr (And.intro @res_tmp (And.intro @res_var (And.intro @slD_dat (And.intro @eV_ (And.intro @slV_frz (And.intro @slV_own (And.intro @slV_par (And.intro @slV_scr (And.intro @eC_d (And.intro @eOp_ (And.intro @p2_ (And.intro @p2o_ (And.intro @eUn_ (@p1_)))))))))))))))))))))))))))))))))))))))) := And.intro @pt1 (And.intro @pt2 (And.intro @pt3 (And.intro @pt4 (And.intro @pt5 (And.intro @pt6 (And.intro @pt7 (And.intro @pt8 (And.intro @pt9 (And.intro @pt10 (And.intro @pt11 (And.intro @pt12 (And.intro @pt13 (And.intro @pt14 (And.intro @pt15 (And.intro @pt16 (And.intro @pt17 (And.intro @pt18 (And.intro @pt19 (And.intro @pt20 (And.intro @pt21 (And.intro @pt22 (And.intro @pt23 (And.intro @pt24 (And.intro @pt25 (And.intro @res_shr (And.intro @res_tmp (And.intro @res_var (And.intro @slD_dat (And.intro @eV_ (And.intro @slV_frz (And.intro @slV_own (And.intro @slV_par (And.intro @slV_scr (And.intro @eC_d (And.intro @eOp_ (And.intro @p2_ (And.intro @p2o_ (And.intro @eUn_ (@p1_)))))))))))))))))))))))))))))))))))))))
theorem wq2 : type_of% (And.intro @p1o_ (And.intro @eNil_ (And.intro @eCons_ (And.intro @resA_nil (And.intro @resA_cons (And.intro @cns_ (And.intro @eB_ (And.intro @pN_ (And.intro @pNo_ (And.intro @eEsc_ (And.intro @escR_shr (And.intro @escR_tmp (And.intro @escR_var (And.intro @slE_frz (And.intro @slE_own (And.intro @shrs_nil (And.intro @shrs_shr (And.intro @shrs_tmp (And.intro @eTup_ (And.intro @wp_mkT (And.intro @eLst_ (And.intro @wp_mkL (And.intro @tV_ (And.intro @okB_ (And.intro @tNo_ (And.intro @tAnd2_ (And.intro @tOr2_ (And.intro @tTrue_ (And.intro @bD_ (And.intro @wp_and (And.intro @wp_or (And.intro @wp_not (And.intro @eIf_ (And.intro @sNil_ (And.intro @sPass_ (And.intro @sBrk_ (And.intro @sCt_ (And.intro @goOn_nx (And.intro @goOn_ret (@goOn_brk)))))))))))))))))))))))))))))))))))))))) := And.intro @p1o_ (And.intro @eNil_ (And.intro @eCons_ (And.intro @resA_nil (And.intro @resA_cons (And.intro @cns_ (And.intro @eB_ (And.intro @pN_ (And.intro @pNo_ (And.intro @eEsc_ (And.intro @escR_shr (And.intro @escR_tmp (And.intro @escR_var (And.intro @slE_frz (And.intro @slE_own (And.intro @shrs_nil (And.intro @shrs_shr (And.intro @shrs_tmp (And.intro @eTup_ (And.intro @wp_mkT (And.intro @eLst_ (And.intro @wp_mkL (And.intro @tV_ (And.intro @okB_ (And.intro @tNo_ (And.intro @tAnd2_ (And.intro @tOr2_ (And.intro @tTrue_ (And.intro @bD_ (And.intro @wp_and (And.intro @wp_or (And.intro @wp_not (And.intro @eIf_ (And.intro @sNil_ (And.intro @sPass_ (And.intro @sBrk_ (And.intro @sCt_ (And.intro @goOn_nx (And.intro @goOn_ret (@goOn_brk)))))))))))))))))))))))))))))))))))))))
theorem wq3 : type_of% (And.intro @goOn_ct (And.intro @sEx_ (And.intro @sIf_ (And.intro @sRet_ (And.intro @retR_shr (And.intro @retR_tmp (And.intro @retR_var (And.intro @slR_frz (And.intro @slR_own (And.intro @sRetN_ (And.intro @sSet_ (And.intro @setR_shr (And.intro @setR_tmp (And.intro @settable_frz (And.intro @settable_own (And.intro @settable_non (And.intro @settable_scr (And.intro @sTo_ (And.intro @wp_toR (And.intro @gW_N (And.intro @gW_T (And.intro @gsW_nil (And.intro @gsW_cons (And.intro @putR_shr (And.intro @putR_tmp (And.intro @oW_some (And.intro @oW_none (And.intro @oW_if (And.intro @sPar_ (And.intro @wp_par2 (And.intro @sPar3_ (And.intro @wp_par3 (And.intro @sAug_ (And.intro @slI_ (And.intro @augS_ (And.intro @augR_ (And.intro @wr_ (And.intro @slW_own (And.intro @slW_par (@sSetIx_)))))))))))))))))))))))))))))))))))))))) := And.intro @goOn_ct (And.intro @sEx_ (And.intro @sIf_ (And.intro @sRet_ (And.intro @retR_shr (And.intro @retR_tmp (And.intro @retR_var (And.intro @slR_frz (And.intro @slR_own (And.intro @sRetN_ (And.intro @sSet_ (And.intro @setR_shr (And.intro @setR_tmp (And.intro @settable_frz (And.intro @settable_own (And.intro @settable_non (And.intro @settable_scr (And.intro @sTo_ (And.intro @wp_toR (And.intro @gW_N (And.intro @gW_T (And.intro @gsW_nil (And.intro @gsW_cons (And.intro @putR_shr (And.intro @putR_tmp (And.intro @oW_some (And.intro @oW_none (And.intro @oW_if (And.intro @sPar_ (And.intro @wp_par2 (And.intro @sPar3_ (And.intro @wp_par3 (And.intro @sAug_ (And.intro @slI_ (And.intro @augS_ (And.intro @augR_ (And.intro @wr_ (And.intro @slW_own (And.intro @slW_par (@sSetIx_)))))))))))))))))))))))))))))))))))))))
theorem wq4 : type_of% (And.intro @ixS_ (And.intro @wp_ixE (And.intro @eMut_ (And.intro @mtS_ (And.intro @wp_mtR (And.intro @o_append (And.intro @wp_itR (And.intro @wp_scrLen (And.intro @scN_ (And.intro @asI_ (And.intro @wp_scrIx (And.intro @wp_TR1 (And.intro @wp_LR1 (And.intro @wp_R1 (And.intro @wp_R2 (And.intro @wp_Seq (And.intro @asS_l (And.intro @asS_t (And.intro @wp_eLc (And.intro @shrW_ (And.intro @wp_sFor (And.intro @Kf_nx (And.intro @Kf_ct (And.intro @Kf_brk (And.intro @Kf_ret (And.intro @eC_call (And.intro @eCk_call (And.intro @wp_callR (And.intro @keep_shr (And.intro @keep_tmp (And.intro @argOf_shr (And.intro @argOf_tmp (And.intro @argOf_var (And.intro @argS_frz (And.intro @argS_own (And.intro @argS_par (And.intro @argS_scr (And.intro @refIx_nil (And.intro @refIx_shr (@refIx_tmp)))))))))))))))))))))))))))))))))))))))) := And.intro @ixS_ (And.intro @wp_ixE (And.intro @eMut_ (And.intro @mtS_ (And.intro @wp_mtR (And.intro @o_append (And.intro @wp_itR (And.intro @wp_scrLen (And.intro @scN_ (And.intro @asI_ (And.intro @wp_scrIx (And.intro @wp_TR1 (And.intro @wp_LR1 (And.intro @wp_R1 (And.intro @wp_R2 (And.intro @wp_Seq (And.intro @asS_l (And.intro @asS_t (And.intro @wp_eLc (And.intro @shrW_ (And.intro @wp_sFor (And.intro @Kf_nx (And.intro @Kf_ct (And.intro @Kf_brk (And.intro @Kf_ret (And.intro @eC_call (And.intro @eCk_call (And.intro @wp_callR (And.intro @keep_shr (And.intro @keep_tmp (And.intro @argOf_shr (And.intro @argOf_tmp (And.intro @argOf_var (And.intro @argS_frz (And.intro @argS_own (And.intro @argS_par (And.intro @argS_scr (And.intro @refIx_nil (And.intro @refIx_shr (@refIx_tmp)))))))))))))))))))))))))))))))))))))))
theorem wq5 : type_of% (And.intro @refIx_var (And.intro @refd_own (And.intro @refd_par (And.intro @refd_frz (And.intro @refd_scr (And.intro @nodup_nil (And.intro @nodup_one (And.intro @backs_nil (And.intro @backs_shr (And.intro @backs_tmp (And.intro @backs_var (And.intro @backV_ (And.intro @kd_own (And.intro @kd_par (And.intro @fR_nx (And.intro @fR_ret (And.intro @outs_0 (And.intro @outs_s (And.intro @outS_par (And.intro @outS_frz (And.intro @outS_own (And.intro @outS_scr (And.intro @outS_non (And.intro @gAdd_int (And.intro @o_addT (And.intro @o_addL (And.intro @gSub_ (And.intro @o_mul (And.intro @o_mulL (And.intro @o_mod (And.intro @o_fdiv (And.intro @o_pow (And.intro @gNeg_ (And.intro @gCmp_ (And.intro @o_eq (And.intro @o_ne (And.intro @o_in_l (And.intro @o_in_t (And.intro @o_repr (@o_is)))))))))))))))))))))))))))))))))))))))) := And.intro @refIx_var (And.intro @refd_own (And.intro @refd_par (And.intro @refd_frz (And.intro @refd_scr (And.intro @nodup_nil (And.intro @nodup_one (And.intro @backs_nil (And.intro @backs_shr (And.intro @backs_tmp (And.intro @backs_var (And.intro @backV_ (And.intro @kd_own (And.intro @kd_par (And.intro @fR_nx (And.intro @fR_ret (And.intro @outs_0 (And.intro @outs_s (And.intro @outS_par (And.intro @outS_frz (And.intro @outS_own (And.intro @outS_scr (And.intro @outS_non (And.intro @gAdd_int (And.intro @o_addT (And.intro @o_addL (And.intro @gSub_ (And.intro @o_mul (And.intro @o_mulL (And.intro @o_mod (And.intro @o_fdiv (And.intro @o_pow (And.intro @gNeg_ (And.intro @gCmp_ (And.intro @o_eq (And.intro @o_ne (And.intro @o_in_l (And.intro @o_in_t (And.intro @o_repr (@o_is)))))))))))))))))))))))))))))))))))))))
theorem wq6 : type_of% (And.intro @o_isn (And.intro @gLen_list (And.intro @gLen_tuple (And.intro @gAbs_ (And.intro @gMax2_ (And.intro @gMin2_ (And.intro @gInt_int (And.intro @gInt_bool (And.intro @gTuple_list (And.intro @gTuple_tuple (And.intro @gList_list (And.intro @gList_tuple (And.intro @gIx_l (And.intro @gIx_t (And.intro @itR_ (And.intro @atI_0 (And.intro @atI_1 (And.intro @atI_2 (And.intro @atI_3 (And.intro @ixN_0 (And.intro @ixN_1 (And.intro @ixN_2 (And.intro @ixN_3 (And.intro @wipeE_nil (And.intro @wipeE_cons (And.intro @restore_nil (And.intro @restore_cons (And.intro @wipable_ (And.intro @wipS_frz (And.intro @wipS_non (And.intro @wipS_scr (And.intro @rp0 (And.intro @rp1 (And.intro @rp2 (And.intro @rp3 (And.intro @rp4 (And.intro @rp5 (And.intro @rp6 (And.intro @rp7 (@rp8)))))))))))))))))))))))))))))))))))))))) := And.intro @o_isn (And.intro @gLen_list (And.intro @gLen_tuple (And.intro @gAbs_ (And.intro @gMax2_ (And.intro @gMin2_ (And.intro @gInt_int (And.intro @gInt_bool (And.intro @gTuple_list (And.intro @gTuple_tuple (And.intro @gList_list (And.intro @gList_tuple (And.intro @gIx_l (And.intro @gIx_t (And.intro @itR_ (And.intro @atI_0 (And.intro @atI_1 (And.intro @atI_2 (And.intro @atI_3 (And.intro @ixN_0 (And.intro @ixN_1 (And.intro @ixN_2 (And.intro @ixN_3 (And.intro @wipeE_nil (And.intro @wipeE_cons (And.intro @restore_nil (And.intro @restore_cons (And.intro @wipable_ (And.intro @wipS_frz (And.intro @wipS_non (And.intro @wipS_scr (And.intro @rp0 (And.intro @rp1 (And.intro @rp2 (And.intro @rp3 (And.intro @rp4 (And.intro @rp5 (And.intro @rp6 (And.intro @rp7 (@rp8)))))))))))))))))))))))))))))))))))))))
theorem wq7 : type_of% (And.intro @rp9 (And.intro @rp10 (And.intro @rp11 (And.intro @rp12 (And.intro @rp13 (And.intro @rp14 (And.intro @rp15 (And.intro @rp16 (And.intro @rp17 (And.intro @rp18 (And.intro @rp19 (And.intro @rp20 (And.intro @rp21 (And.intro @rp22 (And.intro @rp23 (And.intro @rp24 (And.intro @rp25 (And.intro @rp26 (And.intro @rp27 (And.intro @rp28 (And.intro @rp29 (And.intro @rp30 (And.intro @permL_nil (And.intro @permL_cons (And.intro @permO_ (And.intro @wp_scrCmp (And.intro @eqv_l0 (And.intro @shaped_l0 (And.intro @shaped_t0 (And.intro @shaped_i (And.intro @shaped_t (And.intro @shaped_l (And.intro @eqv_ii (And.intro @eqv_tt (And.intro @eqv_ll (And.intro @flat_i (And.intro @flat_ints (And.intro @inD_ints (And.intro @iL_len (@rO_len)))))))))))))))))))))))))))))))))))))))) := And.intro @rp9 (And.intro @rp10 (And.intro @rp11 (And.intro @rp12 (And.intro @rp13 (And.intro @rp14 (And.intro @rp15 (And.intro @rp16 (And.intro @rp17 (And.intro @rp18 (And.intro @rp19 (And.intro @rp20 (And.intro @rp21 (And.intro @rp22 (And.intro @rp23 (And.intro @rp24 (And.intro @rp25 (And.intro @rp26 (And.intro @rp27 (And.intro @rp28 (And.intro @rp29 (And.intro @rp30 (And.intro @permL_nil (And.intro @permL_cons (And.intro @permO_ (And.intro @wp_scrCmp (And.intro @eqv_l0 (And.intro @shaped_l0 (And.intro @shaped_t0 (And.intro @shaped_i (And.intro @shaped_t (And.intro @shaped_l (And.intro @eqv_ii (And.intro @eqv_tt (And.intro @eqv_ll (And.intro @flat_i (And.intro @flat_ints (And.intro @inD_ints (And.intro @iL_len (@rO_len)))))))))))))))))))))))))))))))))))))))
theorem wq8 : type_of% (And.intro @intsOf_len (And.intro @oNone_ (And.intro @oSome_ (And.intro @intO_ (And.intro @eSl_ (And.intro @slPR_ (And.intro @gSl_l (And.intro @gSl_t (And.intro @eChain_ (And.intro @prD_ (And.intro @chS_ (And.intro @o_LR2 (And.intro @o_TR2 (And.intro @o_any (And.intro @o_all (And.intro @o_sum (And.intro @boolPR_ (And.intro @intPR_ (And.intro @bL_len (And.intro @boolsOf_bL (And.intro @intsIn_iL (And.intro @eConsO_k (And.intro @kO_shr (And.intro @kO_tmp (And.intro @o_isi (And.intro @bPR_ (And.intro @tyN_none (And.intro @tyN_bool (And.intro @tyN_int (And.intro @tyN_str (And.intro @tyN_list (And.intro @tyN_tuple (And.intro @tyN_dict (And.intro @eMe_ (And.intro @kOf_ (And.intro @isL_l (And.intro @isT_t (And.intro @o_ixL (And.intro @o_ixT (@natPR_)))))))))))))))))))))))))))))))))))))))) := And.intro @intsOf_len (And.intro @oNone_ (And.intro @oSome_ (And.intro @intO_ (And.intro @eSl_ (And.intro @slPR_ (And.intro @gSl_l (And.intro @gSl_t (And.intro @eChain_ (And.intro @prD_ (And.intro @chS_ (And.intro @o_LR2 (And.intro @o_TR2 (And.intro @o_any (And.intro @o_all (And.intro @o_sum (And.intro @boolPR_ (And.intro @intPR_ (And.intro @bL_len (And.intro @boolsOf_bL (And.intro @intsIn_iL (And.intro @eConsO_k (And.intro @kO_shr (And.intro @kO_tmp (And.intro @o_isi (And.intro @bPR_ (And.intro @tyN_none (And.intro @tyN_bool (And.intro @tyN_int (And.intro @tyN_str (And.intro @tyN_list (And.intro @tyN_tuple (And.intro @tyN_dict (And.intro @eMe_ (And.intro @kOf_ (And.intro @isL_l (And.intro @isT_t (And.intro @o_ixL (And.intro @o_ixT (@natPR_)))))))))))))))))))))))))))))))))))))))
theorem wq9 : type_of% (And.intro @kit_NoneType_int (And.intro @kit_NoneType_bool (And.intro @kit_NoneType_tuple (And.intro @kit_NoneType_list (And.intro @kit_NoneType_str (And.intro @kit_NoneType_dict (And.intro @kit_bool_int (And.intro @kit_bool_bool (And.intro @kit_bool_tuple (And.intro @kit_bool_list (And.intro @kit_bool_str (And.intro @kit_bool_dict (And.intro @kit_int_int (And.intro @kit_int_bool (And.intro @kit_int_tuple (And.intro @kit_int_list (And.intro @kit_int_str (And.intro @kit_int_dict (And.intro @kit_str_int (And.intro @kit_str_bool (And.intro @kit_str_tuple (And.intro @kit_str_list (And.intro @kit_str_str (And.intro @kit_str_dict (And.intro @kit_list_int (And.intro @kit_list_bool (And.intro @kit_list_tuple (And.intro @kit_list_list (And.intro @kit_list_str (And.intro @kit_list_dict (And.intro @kit_tuple_int (And.intro @kit_tuple_bool (And.intro @kit_tuple_tuple (And.intro @kit_tuple_list (And.intro @kit_tuple_str (And.intro @kit_tuple_dict (And.intro @kit_dict_int (And.intro @kit_dict_bool (And.intro @kit_dict_tuple (@kit_dict_list)))))))))))))))))))))))))))))))))))))))) := And.intro @kit_NoneType_int (And.intro @kit_NoneType_bool (And.intro @kit_NoneType_tuple (And.intro @kit_NoneType_list (And.intro @kit_NoneType_str (And.intro @kit_NoneType_dict (And.intro @kit_bool_int (And.intro @kit_bool_bool (And.intro @kit_bool_tuple (And.intro @kit_bool_list (And.intro @kit_bool_str (And.intro @kit_bool_dict (And.intro @kit_int_int (And.intro @kit_int_bool (And.intro @kit_int_tuple (And.intro @kit_int_list (And.intro @kit_int_str (And.intro @kit_int_dict (And.intro @kit_str_int (And.intro @kit_str_bool (And.intro @kit_str_tuple (And.intro @kit_str_list (And.intro @kit_str_str (And.intro @kit_str_dict (And.intro @kit_list_int (And.intro @kit_list_bool (And.intro @kit_list_tuple (And.intro @kit_list_list (And.intro @kit_list_str (And.intro @kit_list_dict (And.intro @kit_tuple_int (And.intro @kit_tuple_bool (And.intro @kit_tuple_tuple (And.intro @kit_tuple_list (And.intro @kit_tuple_str (And.intro @kit_tuple_dict (And.intro @kit_dict_int (And.intro @kit_dict_bool (And.intro @kit_dict_tuple (@kit_dict_list)))))))))))))))))))))))))))))))))))))))
theorem wq10 : type_of% (And.intro @kit_dict_str (And.intro @kit_dict_dict (And.intro @o_sortedL (And.intro @o_sortedT (And.intro @eDict0_ (And.intro @o_str (And.intro @iZip_ (And.intro @zipR_t (And.intro @zipR_l (And.intro @wx_bU (And.intro @wx_ok (And.intro @wx_exc (And.intro @wx_if (And.intro @eErrI_ (And.intro @errIR_ (And.intro @eErrA_ (And.intro @errAR_ (And.intro @eIsN_ (And.intro @isNS_err (And.intro @isNS_dat (And.intro @isNone_none (And.intro @isNone_bool (And.intro @isNone_int (And.intro @isNone_str (And.intro @isNone_list (And.intro @isNone_tuple (And.intro @isNone_dict (And.intro @o_popAt (And.intro @o_pop (And.intro @popR_ (And.intro @o_extend (And.intro @sRaise_ (And.intro @raiseR_ (And.intro @wx_C (And.intro @wx_Ck (And.intro @wx_call (And.intro @keepX_ (And.intro @wp_tryE (And.intro @o_reprD (@shD_n)))))))))))))))))))))))))))))))))))))))) := And.intro @kit_dict_str (And.intro @kit_dict_dict (And.intro @o_sortedL (And.intro @o_sortedT (And.intro @eDict0_ (And.intro @o_str (And.intro @iZip_ (And.intro @zipR_t (And.intro @zipR_l (And.intro @wx_bU (And.intro @wx_ok (And.intro @wx_exc (And.intro @wx_if (And.intro @eErrI_ (And.intro @errIR_ (And.intro @eErrA_ (And.intro @errAR_ (And.intro @eIsN_ (And.intro @isNS_err (And.intro @isNS_dat (And.intro @isNone_none (And.intro @isNone_bool (And.intro @isNone_int (And.intro @isNone_str (And.intro @isNone_list (And.intro @isNone_tuple (And.intro @isNone_dict (And.intro @o_popAt (And.intro @o_pop (And.intro @popR_ (And.intro @o_extend (And.intro @sRaise_ (And.intro @raiseR_ (And.intro @wx_C (And.intro @wx_Ck (And.intro @wx_call (And.intro @keepX_ (And.intro @wp_tryE (And.intro @o_reprD (@shD_n)))))))))))))))))))))))))))))))))))))))
theorem wq11 : type_of% (And.intro @shD_b (And.intro @shD_i (And.intro @shD_s (And.intro @shD_l (And.intro @shD_t (And.intro @eRev_ (And.intro @revPR_ (And.intro @gRev_l (And.intro @gRev_t (And.intro @o_inD (And.intro @o_countL (And.intro @o_lenSet (And.intro @o_getD (And.intro @optPR_ (And.intro @o_inX (And.intro @eGet2_ (And.intro @get2R_ (And.intro @shr1_shr (And.intro @shr1_tmp (And.intro @isD_d (And.intro @sDSet_ (And.intro @putS_ (And.intro @putD_ (And.intro @wrD_ (And.intro @slWD_own (And.intro @slWD_par (And.intro @wp_eLc2 (And.intro @tupAt_ (And.intro @slTup_ (And.intro @sSwap_ (And.intro @twoOf_ (And.intro @intAt_ (And.intro @slInt_ (And.intro @wp_swap (And.intro @wp_Dic (And.intro @asD_ (And.intro @wp_eDc (And.intro @wp_daug (And.intro @wp_augD1 (@augD2_)))))))))))))))))))))))))))))))))))))))) := And.intro @shD_b (And.intro @shD_i (And.intro @shD_s (And.intro @shD_l (And.intro @shD_t (And.intro @eRev_ (And.intro @revPR_ (And.intro @gRev_l (And.intro @gRev_t (And.intro @o_inD (And.intro @o_countL (And.intro @o_lenSet (And.intro @o_getD (And.intro @optPR_ (And.intro @o_inX (And.intro @eGet2_ (And.intro @get2R_ (And.intro @shr1_shr (And.intro @shr1_tmp (And.intro @isD_d (And.intro @sDSet_ (And.intro @putS_ (And.intro @putD_ (And.intro @wrD_ (And.intro @slWD_own (And.intro @slWD_par (And.intro @wp_eLc2 (And.intro @tupAt_ (And.intro @slTup_ (And.intro @sSwap_ (And.intro @twoOf_ (And.intro @intAt_ (And.intro @slInt_ (And.intro @wp_swap (And.intro @wp_Dic (And.intro @asD_ (And.intro @wp_eDc (And.intro @wp_daug (And.intro @wp_augD1 (@augD2_)))))))))))))))))))))))))))))))))))))))
theorem wq12 : type_of% (And.intro @eBV_ (And.intro @pV_ (And.intro @gvSum_ (And.intro @gvMin_ (And.intro @gvMax_ (And.intro @gvList_ (And.intro @gvSortIt_ (And.intro @o_sorted2L (And.intro @o_sorted2T (And.intro @o_sorted2D (And.intro @srtPR_s (And.intro @srtPR_n (And.intro @o_mmL (And.intro @o_mmT (And.intro @mmPR_ (And.intro @eDictP_ (And.intro @asPs_l (And.intro @asPs_t (And.intro @dctR_ (And.intro @gLenD_ (And.intro @o_sortSet (And.intro @o_isTrue (And.intro @o_isFalse (And.intro @o_nTrue (And.intro @o_nFalse (And.intro @eDictT_ (And.intro @dctT_ (And.intro @o_inT2 (And.intro @gMax3_ (And.intro @wp_callL (And.intro @eThk_ (And.intro @thR_ok (And.intro @thR_exc (And.intro @nvW_shr (And.intro @nvW_tmp (And.intro @capS_frz (And.intro @capS_own (And.intro @capS_par (And.intro @capS_nums (@capS_err)))))))))))))))))))))))))))))))))))))))) := And.intro @eBV_ (And.intro @pV_ (And.intro @gvSum_ (And.intro @gvMin_ (And.intro @gvMax_ (And.intro @gvList_ (And.intro @gvSortIt_ (And.intro @o_sorted2L (And.intro @o_sorted2T (And.intro @o_sorted2D (And.intro @srtPR_s (And.intro @srtPR_n (And.intro @o_mmL (And.intro @o_mmT (And.intro @mmPR_ (And.intro @eDictP_ (And.intro @asPs_l (And.intro @asPs_t (And.intro @dctR_ (And.intro @gLenD_ (And.intro @o_sortSet (And.intro @o_isTrue (And.intro @o_isFalse (And.intro @o_nTrue (And.intro @o_nFalse (And.intro @eDictT_ (And.intro @dctT_ (And.intro @o_inT2 (And.intro @gMax3_ (And.intro @wp_callL (And.intro @eThk_ (And.intro @thR_ok (And.intro @thR_exc (And.intro @nvW_shr (And.intro @nvW_tmp (And.intro @capS_frz (And.intro @capS_own (And.intro @capS_par (And.intro @capS_nums (@capS_err)))))))))))))))))))))))))))))))))))))))
theorem wq13 : type_of% (And.intro @capS_thk (And.intro @capS_non (And.intro @o_intBig (And.intro @o_mulS (And.intro @o_mulT (@o_addStr)))))) := And.intro @capS_thk (And.intro @capS_non (And.intro @o_intBig (And.intro @o_mulS (And.intro @o_mulT (@o_addStr)))))
end DL

namespace DLaw
open PySem PySem.Spec PyProof.Rows L2 DL
/-! ### the defs on data -/
def b_law_stream : EvS :=
  (sSeq (sSet 2 (eIf (tV (eOp (gCmp fun i j => decide (i < j)) (eV 1) (eScrLen 0))) (eScrIx 0 (eV 1)) (eOp gAdd (eOp gMul (eC (.int 3)) (eV 1)) (eScrLen 0))))
    (sSeq (sSet 3 (eOp gMul (eOp gMod (eB gAbs (eCons (eV 2) eNil)) (eB gIntS (eCons (eOp gAdd (eC (.str "1")) (eOp gMulS (eC (.str "0")) (eC (.int 900)))) eNil))) (eB gInt (eCons (eOp (gCmp fun i j => decide (j ≤ i)) (eB gAbs (eCons (eV 2) eNil)) (eOp gPow (eC (.int 10)) (eC (.int 18)))) eNil))))
    (sRet (eLst (eCons (eV 3) (eCons (eOp gMod (eOp gMul (eOp gAdd (eOp gAdd (eOp gMod (eV 2) (eC (.int 2305843009213693951))) (eOp gMul (eOp gMul (eC (.int 7919)) (eV 1)) (eV 1))) (eC (.int 11))) (eC (.int 48271))) (eC (.int 2305843009213693951))) eNil))))))
def m_law_stream : FnD := defG true 2 4 b_law_stream
def b_law_draw : EvS :=
  (sSeq (sIf (tV (eOp (gCmp fun i j => decide (j < i)) (eOp gIx (eV 0) (eC (.int 0))) (eC (.int 0)))) (sSeq (sSet 2 (eOp gMod (eOp gIx (eV 0) (eC (.int 0))) (eV 1)))
      (sSeq (sSetIx 0 (eC (.int 0)) (eOp gFdiv (eOp gIx (eV 0) (eC (.int 0))) (eV 1)))
      (sRet (eV 2)))) sNil)
    (sSeq (sSetIx 0 (eC (.int 1)) (eOp gMod (eOp gAdd (eOp gMul (eOp gIx (eV 0) (eC (.int 1))) (eC (.int 1181783497276652981))) (eC (.int 12345678910987))) (eC (.int 2305843009213693951))))
    (sRet (eOp gMod (eOp gFdiv (eOp gMod (eOp gMul (eOp gFdiv (eOp gIx (eV 0) (eC (.int 1))) (eC (.int 65537))) (eOp gAdd (eOp gMod (eOp gIx (eV 0) (eC (.int 1))) (eC (.int 65537))) (eC (.int 3)))) (eC (.int 2305843009213693921))) (eC (.int 97))) (eV 1)))))
def m_law_draw : FnD := defG true 2 3 b_law_draw
def b_law_pick : EvS :=
  (sRet (eOp gIx (eV 1) (eC_ 2 m_law_draw (eCons (eV 0) (eCons (eB gLen (eCons (eV 1) eNil)) eNil)))))
def m_law_pick : FnD := defG true 2 2 b_law_pick
def b_law_shuffled : EvS :=
  (sSeq (sPar 2 3 (eConsO (eB gList (eCons (eV 1) eNil)) (eConsO (eLst eNil) eNil)))
    (sSeq (whL (tV (eOp gNe (eV 2) (eLst eNil))) (sEx (eMut 3 gAppend (eCons (eMut 2 gPopAt (eCons (eC_ 2 m_law_draw (eCons (eV 0) (eCons (eB gLen (eCons (eV 2) eNil)) eNil))) eNil)) eNil))) 10000000000000000000000000000000000000000000000000000000000000000000000000000000000000000000000000000)
    (sRet (eV 3))))
def m_law_shuffled : FnD := defG true 2 4 b_law_shuffled
def b_law_some : EvS :=
  (sSeq (sSet 3 (eOp gAdd (eV 2) (eC_ 2 m_law_draw (eCons (eV 0) (eCons (eOp gAdd (eOp gSub (eB gLen (eCons (eV 1) eNil)) (eV 2)) (eC (.int 1))) eNil)))))
    (sRet (eB gTuple (eCons (eB gSorted2 (eCons (eSl (eC_ 2 m_law_shuffled (eCons (eV 0) (eCons (eV 1) eNil))) oNone (oSome (eV 3))) eNil)) eNil))))
def m_law_some : FnD := defG true 3 4 b_law_some
def b_law_alive : EvS :=
  (sRet (eLc (iSeq (eV 0)) (gN 2) (tV (eOp (gIn false) (eV 2) (eV 1))) (eV 2) [2]))
def m_law_alive : FnD := defG true 2 3 b_law_alive
def b_law_next : EvS :=
  (sSeq (sSet 4 (eC_ 2 m_law_alive (eCons (eV 0) (eCons (eV 1) eNil))))
    (sSeq (sIf (tV (eOp (gCmp fun i j => decide (i ≤ j)) (eB gLen (eCons (eV 4) eNil)) (eV 2))) (sRet (eTup (eCons (eC (.str "short")) (eCons (eV 0) eNil)))) sNil)
    (sRet (eTup (eCons (eC (.str "returned")) (eCons (eIf (tV (eOp (gIn false) (eV 3) (eSl (eV 4) oNone (oSome (eV 2))))) (eOp gIx (eV 4) (eV 2)) (eC .none)) eNil))))))
def m_law_next : FnD := defG true 4 5 b_law_next
def b_law_short (th : TR) : EvS :=
  (sSeq (sTo (eTup (eCons (eC .none) (eCons (eC .none) eNil))) (gT 2 (gCs (gN 1) (gCs (gN 2) gNl))))
    (sSeq (sTry 3 1 (sSet 2 (eThk th 0)))
    (sSeq (sIf (tV (eIsN 1 false)) (sRet (eTup (eCons (eC (.str "returned")) (eCons (eV 2) eNil)))) sNil)
    (sSeq (sSet 4 (eAnd (eErrI 1 (fun c => ["TooShort"].contains c)) (eErrI 1 (fun c => ["TooShort"].contains c))))
    (sRet (eIf (tV (eV 4)) (eTup (eCons (eC (.str "short")) (eCons (eErrA 1 ["TooShort"]) eNil))) (eTup (eCons (eC (.str "other")) (eCons (eC .none) eNil)))))))))
def m_law_short : TR → FnD := fun th => defG true 1 5 (b_law_short th)
def b_live_in : EvS :=
  (sRet (eLc (iSeq (eV 0)) (gN 2) (tV (eOp (gIn false) (eV 2) (eV 1))) (eV 2) [2]))
def m_live_in : FnD := defG true 2 3 b_live_in
def b_successor : EvS :=
  (sSeq (sSet 4 (eC_ 2 m_live_in (eCons (eV 0) (eCons (eV 1) eNil))))
    (sSeq (sIf (tV (eOp (gCmp fun i j => decide (i ≤ j)) (eB gLen (eCons (eV 4) eNil)) (eV 2))) (sRaise "TooShort" (eV 0)) sNil)
    (sRet (eIf (tV (eOp (gIn false) (eV 3) (eSl (eV 4) oNone (oSome (eV 2))))) (eOp gIx (eV 4) (eV 2)) (eC .none)))))
def m_successor : FnD := defG true 4 5 b_successor
def b_law : EvS :=
  (sSeq (sFor (iR1 (eB gMax2 (eCons (eC (.int 1)) (eCons (eB gMin2 (eCons (eC (.int 3)) (eCons (eScrLen 0) eNil))) eNil)))) (gN 1) (sSeq (sSet 2 (eC_ 2 m_law_stream (eCons (eV 0) (eCons (eV 1) eNil))))
      (sFor (iR1 (eC (.int 16))) (gN 3) (sSeq (sSet 4 (eC_ 2 m_law_pick (eCons (eV 2) (eCons (eLst (eCons (eOp gAdd (eC (.int 2)) (eC_ 2 m_law_draw (eCons (eV 2) (eCons (eC (.int 11)) eNil)))) (eCons (eOp gAdd (eC (.int 2)) (eC_ 2 m_law_draw (eCons (eV 2) (eCons (eC (.int 11)) eNil)))) (eCons (eC (.int 60)) eNil)))) eNil))))
        (sSeq (sSet 5 (eC_ 2 m_law_pick (eCons (eV 2) (eCons (eLst (eCons (eV 4) (eCons (eOp gAdd (eC (.int 1)) (eC_ 2 m_law_draw (eCons (eV 2) (eCons (eV 4) eNil)))) eNil))) eNil))))
        (sSeq (sSet 6 (eB gTuple (eCons (eSl (eC_ 2 m_law_shuffled (eCons (eV 2) (eCons (eLR1 (eV 4)) eNil))) oNone (oSome (eV 5))) eNil)))
        (sSeq (sSet 7 (eC_ 3 m_law_some (eCons (eV 2) (eCons (eLR1 (eV 4)) (eCons (eC (.int 2)) eNil)))))
        (sSeq (sSet 8 (eOp gAdd (eC (.int 1)) (eC_ 2 m_law_draw (eCons (eV 2) (eCons (eOp gSub (eB gLen (eCons (eV 7) eNil)) (eC (.int 1))) eNil)))))
        (sFor (iSeq (eOp gAdd (eLc (iR1 (eC (.int 4))) (gN 11) tTrue (eC_ 2 m_law_pick (eCons (eV 2) (eCons (eV 7) eNil))) [11]) (eLst (eCons (eOp gIx (eV 7) (eC (.int 0))) (eCons (eOp gIx (eV 7) (eUn gNeg (eC (.int 1)))) eNil))))) (gN 9) (sSeq (sSet 10 (eC_ 4 m_law_next (eCons (eV 6) (eCons (eV 7) (eCons (eV 8) (eCons (eV 9) eNil))))))
          (sIf (tV (eOp gNe (eB gReprD (eCons (eCallL m_law_short (eC_ 4 m_successor (eCons (eV 6) (eCons (eV 7) (eCons (eV 8) (eCons (eV 9) eNil)))))) eNil)) (eB gReprD (eCons (eV 10) eNil)))) (sRet (eC (.bool false))) sNil)))))))))))
    (sRet (eC (.bool true))))
def m_law : FnD := defG true 1 12 b_law
theorem take_iL {l : List Int} {n : Nat} : (iL l).take n = iL (l.take n) := by unfold iL; rw [List.map_take]
theorem eraseIdx_perm : ∀ {l : List Int} {i : Nat} {x : Int}, l[i]? = some x → (x :: l.eraseIdx i).Perm l
  | [], i, x, h => by simp at h
  | a :: l, 0, x, h => by simp at h; subst h; exact .refl _
  | a :: l, i + 1, x, h => by
    have := eraseIdx_perm (l := l) (i := i) (by simpa using h)
    show (x :: a :: l.eraseIdx i).Perm (a :: l)
    exact (List.Perm.swap a x _).trans (this.cons a)
theorem iL_erase : ∀ {l : List Int} {i : Nat}, (iL l).eraseIdx i = iL (l.eraseIdx i)
  | [], i => rfl
  | a :: l, 0 => rfl
  | a :: l, i + 1 => by
    show PyData.int a :: (iL l).eraseIdx i = PyData.int a :: iL (l.eraseIdx i)
    rw [iL_erase]
theorem mixed_loop {P : Nat → PyData → Prop} {l : List Int} (hl : l.length < 1000000) {t : Nat} {s1 : Sl} {c : EvE} {Q : Fl → Ev → Prop} {v : U Q} {d : PyData} (hd : P t d)
    (step : ∀ (L F : List Int) (d : PyData) (R : RV → Ev → Prop) (w : U R), L ≠ [] → F.length + L.length = l.length → P (t + F.length) d → (∀ (r : Int) d', 0 ≤ r → r < L.length → P (t + F.length + 1) d' → R (.shr (.int r)) [.dat d' .par, s1, .dat (.list (iL L)) .own, .dat (.list (iL F)) .own]) → Wp (c [.dat d .par, s1, .dat (.list (iL L)) .own, .dat (.list (iL F)) .own]) R w)
    (fin : ∀ F d', F.Perm l → P (t + l.length) d' → Q .nx [.dat d' .par, s1, .dat (.list []) .own, .dat (.list (iL F)) .own]) :
    Wp (whL (tV (eOp gNe (eV 2) (eLst eNil))) (sEx (eMut 3 gAppend (eCons (eMut 2 gPopAt (eCons c eNil)) eNil))) 10000000000000000000000000000000000000000000000000000000000000000000000000000000000000000000000000000 [.dat d .par, s1, .dat (.list (iL l)) .own, .dat (.list []) .own]) Q v := by
  refine whL_inv (fun m ρ => ∃ (L F : List Int) (d' : PyData), m = L.length ∧ (F ++ L).Perm l ∧ P (t + F.length) d' ∧ ρ = [.dat d' .par, s1, .dat (.list (iL L)) .own, .dat (.list (iL F)) .own]) ?_ _ l.length (by omega) ⟨l, ([] : List Int), d, rfl, .refl _, hd, rfl⟩
  rintro m _ ⟨L, F, d', rfl, hp, hd', rfl⟩
  have hlen := hp.length_eq
  rw [List.length_append] at hlen
  by_cases hL : L = []
  · subst hL
    rw [List.append_nil] at hp
    have := fin F d' hp (by rw [← hp.length_eq]; exact hd')
    simp -implicitDefEqProofs only [↓bind_U, wq0, wq1, wq2, wq3, wq4, wq5, wq6, wq7, wq8, wq9, wq10, wq11, wq12, wq13, sSeq_, Option.map_some, List.all_cons, List.all_nil, Bool.and_true, List.map_cons, List.map_nil, List.length_cons, List.length_nil, List.length_append, List.set_cons_zero, List.set_cons_succ, List.nil_append, List.cons_append, List.getElem?_cons, decide_eq_true_eq, if_true, true_and, and_true, not_true, not_false, Bool.not_true, Bool.not_false, reduceIte, Nat.reduceAdd, Nat.reduceSub, Int.reduceAdd, Int.reduceLT, Int.reduceLE, Nat.reduceLeDiff, Nat.zero_add, Nat.reduceLT, Int.reduceSub, Int.reduceMul, Int.reducePow, Int.reduceNeg, Int.reduceToNat, Nat.reduceMul, Nat.reduceEqDiff, Int.reduceMod, Int.reduceDiv, decide_true, decide_false, ite_true, ite_false, Int.reduceEq, Nat.reduceBEq, Bool.false_eq_true, false_and, and_false, Int.toNat_natCast, Nat.succ_ne_zero, Nat.one_ne_zero, PyData.int.injEq, if_false, reduceCtorEq, Bool.not_eq_true', decide_eq_false_iff_not, ne_eq, true_or, or_true, Option.bind_some, eqv_l0, iL_nil]
    exact this
  · simp -implicitDefEqProofs only [↓bind_U, wq0, wq1, wq2, wq3, wq4, wq5, wq6, wq7, wq8, wq9, wq10, wq11, wq12, wq13, sSeq_, Option.map_some, List.all_cons, List.all_nil, Bool.and_true, List.map_cons, List.map_nil, List.length_cons, List.length_nil, List.length_append, List.set_cons_zero, List.set_cons_succ, List.nil_append, List.cons_append, List.getElem?_cons, decide_eq_true_eq, if_true, true_and, and_true, not_true, not_false, Bool.not_true, Bool.not_false, reduceIte, Nat.reduceAdd, Nat.reduceSub, Int.reduceAdd, Int.reduceLT, Int.reduceLE, Nat.reduceLeDiff, Nat.zero_add, Nat.reduceLT, Int.reduceSub, Int.reduceMul, Int.reducePow, Int.reduceNeg, Int.reduceToNat, Nat.reduceMul, Nat.reduceEqDiff, Int.reduceMod, Int.reduceDiv, decide_true, decide_false, ite_true, ite_false, Int.reduceEq, Nat.reduceBEq, Bool.false_eq_true, false_and, and_false, Int.toNat_natCast, Nat.succ_ne_zero, Nat.one_ne_zero, PyData.int.injEq, if_false, reduceCtorEq, Bool.not_eq_true', decide_eq_false_iff_not, ne_eq, true_or, or_true, Option.bind_some, eqv_l0, hL]
    refine step L F d' _ _ hL hlen hd' fun r d2 r0 r1 hd2 => ?_
    obtain ⟨i, rfl⟩ : ∃ i : Nat, r = i := ⟨r.toNat, by omega⟩
    have hi : i < L.length := by omega
    have e1 : (iL L)[i]? = some (.int L[i]) := by rw [iL_get, List.getElem?_eq_getElem hi]; rfl
    simp -implicitDefEqProofs only [↓bind_U, wq0, wq1, wq2, wq3, wq4, wq5, wq6, wq7, wq8, wq9, wq10, wq11, wq12, wq13, sSeq_, Option.map_some, List.all_cons, List.all_nil, Bool.and_true, List.map_cons, List.map_nil, List.length_cons, List.length_nil, List.length_append, List.set_cons_zero, List.set_cons_succ, List.nil_append, List.cons_append, List.getElem?_cons, decide_eq_true_eq, if_true, true_and, and_true, not_true, not_false, Bool.not_true, Bool.not_false, reduceIte, Nat.reduceAdd, Nat.reduceSub, Int.reduceAdd, Int.reduceLT, Int.reduceLE, Nat.reduceLeDiff, Nat.zero_add, Nat.reduceLT, Int.reduceSub, Int.reduceMul, Int.reducePow, Int.reduceNeg, Int.reduceToNat, Nat.reduceMul, Nat.reduceEqDiff, Int.reduceMod, Int.reduceDiv, decide_true, decide_false, ite_true, ite_false, Int.reduceEq, Nat.reduceBEq, Bool.false_eq_true, false_and, and_false, Int.toNat_natCast, Nat.succ_ne_zero, Nat.one_ne_zero, PyData.int.injEq, if_false, reduceCtorEq, Bool.not_eq_true', decide_eq_false_iff_not, ne_eq, true_or, or_true, Option.bind_some, e1, iL_erase]
    refine ⟨⟨by omega, by omega⟩, ⟨by omega, ?_⟩⟩
    refine ⟨_, ?_, L.eraseIdx i, F ++ [L[i]], d2, rfl, ?_, by rw [List.length_append]; exact hd2, by rw [iL_app]; rfl⟩
    · rw [List.length_eraseIdx_of_lt hi]; omega
    rw [List.append_assoc]
    exact ((eraseIdx_perm (List.getElem?_eq_getElem hi)).append_left F).trans hp
/-- a stream of drawn numbers -/
def Sm (d : PyData) : Prop := ∃ a b : Int, d = .list [.int a, .int b] ∧ 0 ≤ a ∧ Bd 4000 a ∧ 0 ≤ b ∧ b < 2305843009213693951
theorem draw_wpB {u : Int} (hu : 0 < u) (bu : Bd 8000 u) {d : PyData} (h : Sm d) {Q : RV → Ev → Prop} {v : U Q}
    (k : ∀ r d', 0 ≤ r → r < u → Sm d' → Q (.shr (.int r)) [.dat d' .par, .non]) : Wp (m_law_draw [.dat d .par, .dat (.int u) .frz]) Q v := by
  obtain ⟨a, b, rfl, ha, ha2, hb, hb2⟩ := h
  refine def_wp rfl ?_
  unfold b_law_draw
  have bb : Bd 64 b := Bd.u64 hb (by omega)
  simp -implicitDefEqProofs only [↓bind_U, wq0, wq1, wq2, wq3, wq4, wq5, wq6, wq7, wq8, wq9, wq10, wq11, wq12, wq13, sSeq_, Option.map_some, List.all_cons, List.all_nil, Bool.and_true, List.map_cons, List.map_nil, List.length_cons, List.length_nil, List.length_append, List.set_cons_zero, List.set_cons_succ, List.nil_append, List.cons_append, List.getElem?_cons, decide_eq_true_eq, if_true, true_and, and_true, not_true, not_false, Bool.not_true, Bool.not_false, reduceIte, Nat.reduceAdd, Nat.reduceSub, Int.reduceAdd, Int.reduceLT, Int.reduceLE, Nat.reduceLeDiff, Nat.zero_add, Nat.reduceLT, Int.reduceSub, Int.reduceMul, Int.reducePow, Int.reduceNeg, Int.reduceToNat, Nat.reduceMul, Nat.reduceEqDiff, Int.reduceMod, Int.reduceDiv, decide_true, decide_false, ite_true, ite_false, Int.reduceEq, Nat.reduceBEq, Bool.false_eq_true, false_and, and_false, Int.toNat_natCast, Nat.succ_ne_zero, Nat.one_ne_zero, PyData.int.injEq, if_false, reduceCtorEq, Bool.not_eq_true', decide_eq_false_iff_not, ne_eq, true_or, or_true, Option.bind_some]
  split
  · refine ⟨hu, ⟨hu, bits_lt bu (by decide)⟩, k _ _ (Int.emod_nonneg _ (by omega)) (Int.emod_lt_of_pos _ hu) ⟨_, _, rfl, Int.ediv_nonneg ha (by omega), ha2.div hu, hb, hb2⟩⟩
  · have c0 := Int.emod_nonneg (b * 1181783497276652981 + 12345678910987) (show (2305843009213693951 : Int) ≠ 0 by decide)
    have c1 := Int.emod_lt_of_pos (b * 1181783497276652981 + 12345678910987) (show (0 : Int) < 2305843009213693951 by decide)
    have bc : Bd 64 ((b * 1181783497276652981 + 12345678910987) % 2305843009213693951) := Bd.u64 c0 (by omega)
    refine ⟨bits_mul bb (Bd.self _) (by decide +kernel), bits_lt (Bd.self 65537) (by decide +kernel), bits_mul (by repeat (first | assumption | (apply Bd.mod (by omega)) | (apply Bd.div (by omega)) | apply Bd.mul | apply Bd.add | apply Bd.sub | apply Bd.pow | exact Bd.self _)) (by repeat (first | assumption | (apply Bd.mod (by omega)) | (apply Bd.div (by omega)) | apply Bd.mul | apply Bd.add | apply Bd.sub | apply Bd.pow | exact Bd.self _)) (by decide +kernel), bits_lt (Bd.self 97) (by decide +kernel), hu, k _ _ (Int.emod_nonneg _ (by omega)) (Int.emod_lt_of_pos _ hu) ⟨_, _, rfl, ha, ha2, c0, c1⟩⟩
theorem draw_wp {u : Int} (hu : 0 < u) (hu2 : u < 18446744073709551616) {d : PyData} (h : Sm d) {Q : RV → Ev → Prop} {v : U Q}
    (k : ∀ r d', 0 ≤ r → r < u → Sm d' → Q (.shr (.int r)) [.dat d' .par, .non]) : Wp (m_law_draw [.dat d .par, .dat (.int u) .frz]) Q v :=
  draw_wpB hu ((Bd.u64 (Int.le_of_lt hu) hu2).mono (by decide)) h k
theorem big_bd : Bd 3000 bigN := by unfold Bd bigN; decide +kernel
theorem big_pos : 0 < bigN := by unfold bigN; decide +kernel
theorem stream_wp {ns : List Int} {i : Int} (hi0 : 0 ≤ i) (hi : i < 64) (hl : ns.length ≤ 63) {Q : RV → Ev → Prop} {v : U Q} (k : ∀ d, Sm d → Q (.tmp d) [.non, .non]) : Wp (m_law_stream [.scr ns, .dat (.int i) .frz]) Q v := by
  have bi : Bd 64 i := Bd.u64 hi0 (by omega)
  refine def_wp rfl ?_
  unfold b_law_stream
  rw [sSeq_, wp_bind]
  refine Wp.mono (Q := fun f ρ1 => f = .nx ∧ ∃ n : Int, ρ1 = [.scr ns, .dat (.int i) .frz, .dat (.int n) .frz, .non]) (u := ⟨⟩) ?_ fun f ρ1 ⟨hf, n, e⟩ => ?_
  · simp -implicitDefEqProofs only [↓bind_U, wq0, wq1, wq2, wq3, wq4, wq5, wq6, wq7, wq8, wq9, wq10, wq11, wq12, wq13, sSeq_, Option.map_some, List.all_cons, List.all_nil, Bool.and_true, List.map_cons, List.map_nil, List.length_cons, List.length_nil, List.length_append, List.set_cons_zero, List.set_cons_succ, List.nil_append, List.cons_append, List.getElem?_cons, decide_eq_true_eq, if_true, true_and, and_true, not_true, not_false, Bool.not_true, Bool.not_false, reduceIte, Nat.reduceAdd, Nat.reduceSub, Int.reduceAdd, Int.reduceLT, Int.reduceLE, Nat.reduceLeDiff, Nat.zero_add, Nat.reduceLT, Int.reduceSub, Int.reduceMul, Int.reducePow, Int.reduceNeg, Int.reduceToNat, Nat.reduceMul, Nat.reduceEqDiff, Int.reduceMod, Int.reduceDiv, decide_true, decide_false, ite_true, ite_false, Int.reduceEq, Nat.reduceBEq, Bool.false_eq_true, false_and, and_false, Int.toNat_natCast, Nat.succ_ne_zero, Nat.one_ne_zero, PyData.int.injEq, if_false, reduceCtorEq, Bool.not_eq_true', decide_eq_false_iff_not, ne_eq, true_or, or_true, Option.bind_some]
    split
    · exact oW_at hi0 (by assumption) fun j n _ _ => by
        simp -implicitDefEqProofs only [↓bind_U, wq0, wq1, wq2, wq3, wq4, wq5, wq6, wq7, wq8, wq9, wq10, wq11, wq12, wq13, sSeq_, Option.map_some, List.all_cons, List.all_nil, Bool.and_true, List.map_cons, List.map_nil, List.length_cons, List.length_nil, List.length_append, List.set_cons_zero, List.set_cons_succ, List.nil_append, List.cons_append, List.getElem?_cons, decide_eq_true_eq, if_true, true_and, and_true, not_true, not_false, Bool.not_true, Bool.not_false, reduceIte, Nat.reduceAdd, Nat.reduceSub, Int.reduceAdd, Int.reduceLT, Int.reduceLE, Nat.reduceLeDiff, Nat.zero_add, Nat.reduceLT, Int.reduceSub, Int.reduceMul, Int.reducePow, Int.reduceNeg, Int.reduceToNat, Nat.reduceMul, Nat.reduceEqDiff, Int.reduceMod, Int.reduceDiv, decide_true, decide_false, ite_true, ite_false, Int.reduceEq, Nat.reduceBEq, Bool.false_eq_true, false_and, and_false, Int.toNat_natCast, Nat.succ_ne_zero, Nat.one_ne_zero, PyData.int.injEq, if_false, reduceCtorEq, Bool.not_eq_true', decide_eq_false_iff_not, ne_eq, true_or, or_true, Option.bind_some]
        exact ⟨_, rfl⟩
    · exact ⟨bits_mul (Bd.self 3) bi (by decide +kernel), _, rfl⟩
  · subst hf; subst e
    have l1 : (0 : Nat) < (Str.ofString "0").length := by decide +kernel
    have l2 : (Str.ofString "0").length ≤ 1000 := by decide +kernel
    have l3 : (Str.ofString "1").length + (repS (Str.ofString "0") 900).length ≤ 16777216 := by rw [repS_len]; decide +kernel
    have bm : Bd 3000 ((if n < 0 then -n else n) % bigN) := Bd.mod big_pos big_bd
    have b4 : Bd 64 (n % 2305843009213693951) := Bd.mod (by decide) (by unfold Bd; decide)
    have b01 : ∀ p : Prop, [Decidable p] → Bd 1 (if p then (1 : Int) else 0) := fun p _ => Bd.ite01
    have m1 := Int.emod_nonneg (if n < 0 then -n else n) (show bigN ≠ 0 from fun z => by have := big_pos; omega)
    have q0 := Int.emod_nonneg ((n % 2305843009213693951 + 7919 * i * i + 11) * 48271) (show (2305843009213693951 : Int) ≠ 0 by decide)
    have q1 := Int.emod_lt_of_pos ((n % 2305843009213693951 + 7919 * i * i + 11) * 48271) (show (0 : Int) < 2305843009213693951 by decide)
    simp -implicitDefEqProofs only [↓bind_U, wq0, wq1, wq2, wq3, wq4, wq5, wq6, wq7, wq8, wq9, wq10, wq11, wq12, wq13, sSeq_, Option.map_some, List.all_cons, List.all_nil, Bool.and_true, List.map_cons, List.map_nil, List.length_cons, List.length_nil, List.length_append, List.set_cons_zero, List.set_cons_succ, List.nil_append, List.cons_append, List.getElem?_cons, decide_eq_true_eq, if_true, true_and, and_true, not_true, not_false, Bool.not_true, Bool.not_false, reduceIte, Nat.reduceAdd, Nat.reduceSub, Int.reduceAdd, Int.reduceLT, Int.reduceLE, Nat.reduceLeDiff, Nat.zero_add, Nat.reduceLT, Int.reduceSub, Int.reduceMul, Int.reducePow, Int.reduceNeg, Int.reduceToNat, Nat.reduceMul, Nat.reduceEqDiff, Int.reduceMod, Int.reduceDiv, decide_true, decide_false, ite_true, ite_false, Int.reduceEq, Nat.reduceBEq, Bool.false_eq_true, false_and, and_false, Int.toNat_natCast, Nat.succ_ne_zero, Nat.one_ne_zero, PyData.int.injEq, if_false, reduceCtorEq, Bool.not_eq_true', decide_eq_false_iff_not, ne_eq, true_or, or_true, Option.bind_some, l1, l2, l3]
    have e10 : (bits 10 + 1) * 18 ≤ 100000000 := by decide +kernel
    refine ⟨big_pos, e10, bits_mul bm (b01 _) (by decide), bits_mul (Bd.self _) bi (by decide +kernel), bits_mul (by repeat (first | assumption | (apply Bd.mod (by omega)) | (apply Bd.div (by omega)) | apply Bd.mul | apply Bd.add | apply Bd.sub | apply Bd.pow | exact Bd.self _)) bi (by decide +kernel), bits_mul (by repeat (first | assumption | (apply Bd.mod (by omega)) | (apply Bd.div (by omega)) | apply Bd.mul | apply Bd.add | apply Bd.sub | apply Bd.pow | exact Bd.self _)) (Bd.self _) (by decide +kernel), k _ ⟨_, _, rfl, ?_, ?_, q0, q1⟩⟩
    · exact Int.mul_nonneg m1 nn01
    · exact (bm.mul (b01 _)).mono (by decide)
/-- one of a list -/
theorem pick_wp {d : PyData} (h : Sm d) {xs : List PyData} (x0 : xs ≠ []) (x1 : xs.length < 1000000) {s : PyData} (hs : s = .list xs ∨ s = .tuple xs) {Q : RV → Ev → Prop} {v : U Q}
    (k : ∀ x d', x ∈ xs → Sm d' → Q (.shr x) [.dat d' .par, .non]) : Wp (m_law_pick [.dat d .par, .dat s .frz]) Q v := by
  have hl : 0 < xs.length := List.length_pos_iff.mpr x0
  refine def_wp rfl ?_
  unfold b_law_pick
  rcases hs with rfl | rfl <;>
  · simp -implicitDefEqProofs only [↓bind_U, wq0, wq1, wq2, wq3, wq4, wq5, wq6, wq7, wq8, wq9, wq10, wq11, wq12, wq13, sSeq_, Option.map_some, List.all_cons, List.all_nil, Bool.and_true, List.map_cons, List.map_nil, List.length_cons, List.length_nil, List.length_append, List.set_cons_zero, List.set_cons_succ, List.nil_append, List.cons_append, List.getElem?_cons, decide_eq_true_eq, if_true, true_and, and_true, not_true, not_false, Bool.not_true, Bool.not_false, reduceIte, Nat.reduceAdd, Nat.reduceSub, Int.reduceAdd, Int.reduceLT, Int.reduceLE, Nat.reduceLeDiff, Nat.zero_add, Nat.reduceLT, Int.reduceSub, Int.reduceMul, Int.reducePow, Int.reduceNeg, Int.reduceToNat, Nat.reduceMul, Nat.reduceEqDiff, Int.reduceMod, Int.reduceDiv, decide_true, decide_false, ite_true, ite_false, Int.reduceEq, Nat.reduceBEq, Bool.false_eq_true, false_and, and_false, Int.toNat_natCast, Nat.succ_ne_zero, Nat.one_ne_zero, PyData.int.injEq, if_false, reduceCtorEq, Bool.not_eq_true', decide_eq_false_iff_not, ne_eq, true_or, or_true, Option.bind_some]
    refine draw_wp (by omega) (by omega) h fun r d' r0 r1 hd => ?_
    simp -implicitDefEqProofs only [↓bind_U, wq0, wq1, wq2, wq3, wq4, wq5, wq6, wq7, wq8, wq9, wq10, wq11, wq12, wq13, sSeq_, Option.map_some, List.all_cons, List.all_nil, Bool.and_true, List.map_cons, List.map_nil, List.length_cons, List.length_nil, List.length_append, List.set_cons_zero, List.set_cons_succ, List.nil_append, List.cons_append, List.getElem?_cons, decide_eq_true_eq, if_true, true_and, and_true, not_true, not_false, Bool.not_true, Bool.not_false, reduceIte, Nat.reduceAdd, Nat.reduceSub, Int.reduceAdd, Int.reduceLT, Int.reduceLE, Nat.reduceLeDiff, Nat.zero_add, Nat.reduceLT, Int.reduceSub, Int.reduceMul, Int.reducePow, Int.reduceNeg, Int.reduceToNat, Nat.reduceMul, Nat.reduceEqDiff, Int.reduceMod, Int.reduceDiv, decide_true, decide_false, ite_true, ite_false, Int.reduceEq, Nat.reduceBEq, Bool.false_eq_true, false_and, and_false, Int.toNat_natCast, Nat.succ_ne_zero, Nat.one_ne_zero, PyData.int.injEq, if_false, reduceCtorEq, Bool.not_eq_true', decide_eq_false_iff_not, ne_eq, true_or, or_true, Option.bind_some]
    refine oW_at r0 r1 fun n e _ he => ?_
    simp -implicitDefEqProofs only [↓bind_U, wq0, wq1, wq2, wq3, wq4, wq5, wq6, wq7, wq8, wq9, wq10, wq11, wq12, wq13, sSeq_, Option.map_some, List.all_cons, List.all_nil, Bool.and_true, List.map_cons, List.map_nil, List.length_cons, List.length_nil, List.length_append, List.set_cons_zero, List.set_cons_succ, List.nil_append, List.cons_append, List.getElem?_cons, decide_eq_true_eq, if_true, true_and, and_true, not_true, not_false, Bool.not_true, Bool.not_false, reduceIte, Nat.reduceAdd, Nat.reduceSub, Int.reduceAdd, Int.reduceLT, Int.reduceLE, Nat.reduceLeDiff, Nat.zero_add, Nat.reduceLT, Int.reduceSub, Int.reduceMul, Int.reducePow, Int.reduceNeg, Int.reduceToNat, Nat.reduceMul, Nat.reduceEqDiff, Int.reduceMod, Int.reduceDiv, decide_true, decide_false, ite_true, ite_false, Int.reduceEq, Nat.reduceBEq, Bool.false_eq_true, false_and, and_false, Int.toNat_natCast, Nat.succ_ne_zero, Nat.one_ne_zero, PyData.int.injEq, if_false, reduceCtorEq, Bool.not_eq_true', decide_eq_false_iff_not, ne_eq, true_or, or_true, Option.bind_some]
    exact k e d' (List.mem_of_getElem? he) hd
theorem shuffled_wp {d : PyData} (h : Sm d) {l : List Int} (hl : l.length < 1000000) {Q : RV → Ev → Prop} {v : U Q} {som : PyData} (hs : som = .list (iL l) ∨ som = .tuple (iL l))
    (k : ∀ F d', F.Perm l → Sm d' → Q (.tmp (.list (iL F))) [.dat d' .par, .non]) : Wp (m_law_shuffled [.dat d .par, .dat som .frz]) Q v := by
  refine def_wp rfl ?_
  unfold b_law_shuffled
  simp -implicitDefEqProofs only [↓bind_U, wq0, wq1, wq2, wq3, wq4, wq5, wq6, wq7, wq8, wq9, wq10, wq11, wq12, wq13, Option.map_some, List.all_cons, List.all_nil, Bool.and_true, List.map_cons, List.map_nil, List.length_cons, List.length_nil, List.length_append, List.set_cons_zero, List.set_cons_succ, List.nil_append, List.cons_append, List.getElem?_cons, decide_eq_true_eq, if_true, true_and, and_true, not_true, not_false, Bool.not_true, Bool.not_false, reduceIte, Nat.reduceAdd, Nat.reduceSub, Int.reduceAdd, Int.reduceLT, Int.reduceLE, Nat.reduceLeDiff, Nat.zero_add, Nat.reduceLT, Int.reduceSub, Int.reduceMul, Int.reducePow, Int.reduceNeg, Int.reduceToNat, Nat.reduceMul, Nat.reduceEqDiff, Int.reduceMod, Int.reduceDiv, decide_true, decide_false, ite_true, ite_false, Int.reduceEq, Nat.reduceBEq, Bool.false_eq_true, false_and, and_false, Int.toNat_natCast, Nat.succ_ne_zero, Nat.one_ne_zero, PyData.int.injEq, if_false, reduceCtorEq, Bool.not_eq_true', decide_eq_false_iff_not, ne_eq, true_or, or_true, Option.bind_some]
  refine seq_split (fun ρ => ρ = [.dat d .par, .dat som .frz, .dat (.list (iL l)) .own, .dat (.list []) .own]) (by rcases hs with rfl | rfl <;> simp -implicitDefEqProofs only [↓bind_U, wq0, wq1, wq2, wq3, wq4, wq5, wq6, wq7, wq8, wq9, wq10, wq11, wq12, wq13, sSeq_, Option.map_some, List.all_cons, List.all_nil, Bool.and_true, List.map_cons, List.map_nil, List.length_cons, List.length_nil, List.length_append, List.set_cons_zero, List.set_cons_succ, List.nil_append, List.cons_append, List.getElem?_cons, decide_eq_true_eq, if_true, true_and, and_true, not_true, not_false, Bool.not_true, Bool.not_false, reduceIte, Nat.reduceAdd, Nat.reduceSub, Int.reduceAdd, Int.reduceLT, Int.reduceLE, Nat.reduceLeDiff, Nat.zero_add, Nat.reduceLT, Int.reduceSub, Int.reduceMul, Int.reducePow, Int.reduceNeg, Int.reduceToNat, Nat.reduceMul, Nat.reduceEqDiff, Int.reduceMod, Int.reduceDiv, decide_true, decide_false, ite_true, ite_false, Int.reduceEq, Nat.reduceBEq, Bool.false_eq_true, false_and, and_false, Int.toNat_natCast, Nat.succ_ne_zero, Nat.one_ne_zero, PyData.int.injEq, if_false, reduceCtorEq, Bool.not_eq_true', decide_eq_false_iff_not, ne_eq, true_or, or_true, Option.bind_some]) ?_
  rintro _ rfl
  rw [sSeq_, wp_bind]
  refine mixed_loop (P := fun _ d => Sm d) (t := 0) hl h (fun L F d1 R w hL hlen hd kk => ?_) fun F d' hp hd' => ?_
  · have := List.length_pos_iff.mpr hL
    simp -implicitDefEqProofs only [↓bind_U, wq0, wq1, wq2, wq3, wq4, wq5, wq6, wq7, wq8, wq9, wq10, wq11, wq12, wq13, sSeq_, Option.map_some, List.all_cons, List.all_nil, Bool.and_true, List.map_cons, List.map_nil, List.length_cons, List.length_nil, List.length_append, List.set_cons_zero, List.set_cons_succ, List.nil_append, List.cons_append, List.getElem?_cons, decide_eq_true_eq, if_true, true_and, and_true, not_true, not_false, Bool.not_true, Bool.not_false, reduceIte, Nat.reduceAdd, Nat.reduceSub, Int.reduceAdd, Int.reduceLT, Int.reduceLE, Nat.reduceLeDiff, Nat.zero_add, Nat.reduceLT, Int.reduceSub, Int.reduceMul, Int.reducePow, Int.reduceNeg, Int.reduceToNat, Nat.reduceMul, Nat.reduceEqDiff, Int.reduceMod, Int.reduceDiv, decide_true, decide_false, ite_true, ite_false, Int.reduceEq, Nat.reduceBEq, Bool.false_eq_true, false_and, and_false, Int.toNat_natCast, Nat.succ_ne_zero, Nat.one_ne_zero, PyData.int.injEq, if_false, reduceCtorEq, Bool.not_eq_true', decide_eq_false_iff_not, ne_eq, true_or, or_true, Option.bind_some]
    refine draw_wp (by omega) (by omega) hd fun r d' r0 r1 hd' => ?_
    simp -implicitDefEqProofs only [↓bind_U, wq0, wq1, wq2, wq3, wq4, wq5, wq6, wq7, wq8, wq9, wq10, wq11, wq12, wq13, sSeq_, Option.map_some, List.all_cons, List.all_nil, Bool.and_true, List.map_cons, List.map_nil, List.length_cons, List.length_nil, List.length_append, List.set_cons_zero, List.set_cons_succ, List.nil_append, List.cons_append, List.getElem?_cons, decide_eq_true_eq, if_true, true_and, and_true, not_true, not_false, Bool.not_true, Bool.not_false, reduceIte, Nat.reduceAdd, Nat.reduceSub, Int.reduceAdd, Int.reduceLT, Int.reduceLE, Nat.reduceLeDiff, Nat.zero_add, Nat.reduceLT, Int.reduceSub, Int.reduceMul, Int.reducePow, Int.reduceNeg, Int.reduceToNat, Nat.reduceMul, Nat.reduceEqDiff, Int.reduceMod, Int.reduceDiv, decide_true, decide_false, ite_true, ite_false, Int.reduceEq, Nat.reduceBEq, Bool.false_eq_true, false_and, and_false, Int.toNat_natCast, Nat.succ_ne_zero, Nat.one_ne_zero, PyData.int.injEq, if_false, reduceCtorEq, Bool.not_eq_true', decide_eq_false_iff_not, ne_eq, true_or, or_true, Option.bind_some]
    exact kk r d' r0 r1 hd'
  · simp -implicitDefEqProofs only [↓bind_U, wq0, wq1, wq2, wq3, wq4, wq5, wq6, wq7, wq8, wq9, wq10, wq11, wq12, wq13, sSeq_, Option.map_some, List.all_cons, List.all_nil, Bool.and_true, List.map_cons, List.map_nil, List.length_cons, List.length_nil, List.length_append, List.set_cons_zero, List.set_cons_succ, List.nil_append, List.cons_append, List.getElem?_cons, decide_eq_true_eq, if_true, true_and, and_true, not_true, not_false, Bool.not_true, Bool.not_false, reduceIte, Nat.reduceAdd, Nat.reduceSub, Int.reduceAdd, Int.reduceLT, Int.reduceLE, Nat.reduceLeDiff, Nat.zero_add, Nat.reduceLT, Int.reduceSub, Int.reduceMul, Int.reducePow, Int.reduceNeg, Int.reduceToNat, Nat.reduceMul, Nat.reduceEqDiff, Int.reduceMod, Int.reduceDiv, decide_true, decide_false, ite_true, ite_false, Int.reduceEq, Nat.reduceBEq, Bool.false_eq_true, false_and, and_false, Int.toNat_natCast, Nat.succ_ne_zero, Nat.one_ne_zero, PyData.int.injEq, if_false, reduceCtorEq, Bool.not_eq_true', decide_eq_false_iff_not, ne_eq, true_or, or_true, Option.bind_some]
    exact k F d' hp hd'
/-- some of them, ascending -/
theorem some_wp {d : PyData} (h : Sm d) {l : List Int} (hl : l.length < 1000000) {m : Int} (m0 : 0 ≤ m) (m1 : m ≤ l.length) {Q : RV → Ev → Prop} {v : U Q}
    (k : ∀ (F : List Int) (z : Nat) d', F.Perm l → m ≤ z → z ≤ l.length → Sm d' → Q (.shr (.tuple (iL (sortI (F.take z))))) [.dat d' .par, .non, .non]) :
    Wp (m_law_some [.dat d .par, .dat (.list (iL l)) .frz, .dat (.int m) .frz]) Q v := by
  refine def_wp rfl ?_
  unfold b_law_some
  simp -implicitDefEqProofs only [↓bind_U, wq0, wq1, wq2, wq3, wq4, wq5, wq6, wq7, wq8, wq9, wq10, wq11, wq12, wq13, sSeq_, Option.map_some, List.all_cons, List.all_nil, Bool.and_true, List.map_cons, List.map_nil, List.length_cons, List.length_nil, List.length_append, List.set_cons_zero, List.set_cons_succ, List.nil_append, List.cons_append, List.getElem?_cons, decide_eq_true_eq, if_true, true_and, and_true, not_true, not_false, Bool.not_true, Bool.not_false, reduceIte, Nat.reduceAdd, Nat.reduceSub, Int.reduceAdd, Int.reduceLT, Int.reduceLE, Nat.reduceLeDiff, Nat.zero_add, Nat.reduceLT, Int.reduceSub, Int.reduceMul, Int.reducePow, Int.reduceNeg, Int.reduceToNat, Nat.reduceMul, Nat.reduceEqDiff, Int.reduceMod, Int.reduceDiv, decide_true, decide_false, ite_true, ite_false, Int.reduceEq, Nat.reduceBEq, Bool.false_eq_true, false_and, and_false, Int.toNat_natCast, Nat.succ_ne_zero, Nat.one_ne_zero, PyData.int.injEq, if_false, reduceCtorEq, Bool.not_eq_true', decide_eq_false_iff_not, ne_eq, true_or, or_true, Option.bind_some, iL_len]
  refine draw_wp (by omega) (by omega) h fun r d1 r0 r1 hd1 => ?_
  simp -implicitDefEqProofs only [↓bind_U, wq0, wq1, wq2, wq3, wq4, wq5, wq6, wq7, wq8, wq9, wq10, wq11, wq12, wq13, sSeq_, Option.map_some, List.all_cons, List.all_nil, Bool.and_true, List.map_cons, List.map_nil, List.length_cons, List.length_nil, List.length_append, List.set_cons_zero, List.set_cons_succ, List.nil_append, List.cons_append, List.getElem?_cons, decide_eq_true_eq, if_true, true_and, and_true, not_true, not_false, Bool.not_true, Bool.not_false, reduceIte, Nat.reduceAdd, Nat.reduceSub, Int.reduceAdd, Int.reduceLT, Int.reduceLE, Nat.reduceLeDiff, Nat.zero_add, Nat.reduceLT, Int.reduceSub, Int.reduceMul, Int.reducePow, Int.reduceNeg, Int.reduceToNat, Nat.reduceMul, Nat.reduceEqDiff, Int.reduceMod, Int.reduceDiv, decide_true, decide_false, ite_true, ite_false, Int.reduceEq, Nat.reduceBEq, Bool.false_eq_true, false_and, and_false, Int.toNat_natCast, Nat.succ_ne_zero, Nat.one_ne_zero, PyData.int.injEq, if_false, reduceCtorEq, Bool.not_eq_true', decide_eq_false_iff_not, ne_eq, true_or, or_true, Option.bind_some]
  refine shuffled_wp hd1 hl (.inl rfl) fun F d2 hF hd2 => ?_
  simp -implicitDefEqProofs only [↓bind_U, wq0, wq1, wq2, wq3, wq4, wq5, wq6, wq7, wq8, wq9, wq10, wq11, wq12, wq13, sSeq_, Option.map_some, List.all_cons, List.all_nil, Bool.and_true, List.map_cons, List.map_nil, List.length_cons, List.length_nil, List.length_append, List.set_cons_zero, List.set_cons_succ, List.nil_append, List.cons_append, List.getElem?_cons, decide_eq_true_eq, if_true, true_and, and_true, not_true, not_false, Bool.not_true, Bool.not_false, reduceIte, Nat.reduceAdd, Nat.reduceSub, Int.reduceAdd, Int.reduceLT, Int.reduceLE, Nat.reduceLeDiff, Nat.zero_add, Nat.reduceLT, Int.reduceSub, Int.reduceMul, Int.reducePow, Int.reduceNeg, Int.reduceToNat, Nat.reduceMul, Nat.reduceEqDiff, Int.reduceMod, Int.reduceDiv, decide_true, decide_false, ite_true, ite_false, Int.reduceEq, Nat.reduceBEq, Bool.false_eq_true, false_and, and_false, Int.toNat_natCast, Nat.succ_ne_zero, Nat.one_ne_zero, PyData.int.injEq, if_false, reduceCtorEq, Bool.not_eq_true', decide_eq_false_iff_not, ne_eq, true_or, or_true, Option.bind_some]
  rw [cutD_to (by omega), take_iL]
  simp -implicitDefEqProofs only [↓bind_U, wq0, wq1, wq2, wq3, wq4, wq5, wq6, wq7, wq8, wq9, wq10, wq11, wq12, wq13, sSeq_, Option.map_some, List.all_cons, List.all_nil, Bool.and_true, List.map_cons, List.map_nil, List.length_cons, List.length_nil, List.length_append, List.set_cons_zero, List.set_cons_succ, List.nil_append, List.cons_append, List.getElem?_cons, decide_eq_true_eq, if_true, true_and, and_true, not_true, not_false, Bool.not_true, Bool.not_false, reduceIte, Nat.reduceAdd, Nat.reduceSub, Int.reduceAdd, Int.reduceLT, Int.reduceLE, Nat.reduceLeDiff, Nat.zero_add, Nat.reduceLT, Int.reduceSub, Int.reduceMul, Int.reducePow, Int.reduceNeg, Int.reduceToNat, Nat.reduceMul, Nat.reduceEqDiff, Int.reduceMod, Int.reduceDiv, decide_true, decide_false, ite_true, ite_false, Int.reduceEq, Nat.reduceBEq, Bool.false_eq_true, false_and, and_false, Int.toNat_natCast, Nat.succ_ne_zero, Nat.one_ne_zero, PyData.int.injEq, if_false, reduceCtorEq, Bool.not_eq_true', decide_eq_false_iff_not, ne_eq, true_or, or_true, Option.bind_some, intsIn_iL]
  obtain ⟨z, hz⟩ : ∃ z : Nat, m + r = z := ⟨(m + r).toNat, by omega⟩
  rw [hz, Int.toNat_natCast]
  exact k F z d2 hF (by omega) (by omega) hd2
/-- the live servers of a list, in its order -/
def alv (r l : List Int) : List Int := r.filter fun x => decide (x ∈ l)
theorem live_in_wp {r l : List Int} (hr : r.length ≤ 1000000) {Q : RV → Ev → Prop} {v : U Q} (k : Q (.tmp (.list (iL (alv r l)))) [.non, .non]) : Wp (m_live_in [.dat (.tuple (iL r)) .frz, .dat (.tuple (iL l)) .frz]) Q v := by
  refine def_wp rfl ?_
  unfold b_live_in
  simp -implicitDefEqProofs only [↓bind_U, wq0, wq1, wq2, wq3, wq4, wq5, wq6, wq7, wq8, wq9, wq10, wq11, wq12, wq13, sSeq_, Option.map_some, List.all_cons, List.all_nil, Bool.and_true, List.map_cons, List.map_nil, List.length_cons, List.length_nil, List.length_append, List.set_cons_zero, List.set_cons_succ, List.nil_append, List.cons_append, List.getElem?_cons, decide_eq_true_eq, if_true, true_and, and_true, not_true, not_false, Bool.not_true, Bool.not_false, reduceIte, Nat.reduceAdd, Nat.reduceSub, Int.reduceAdd, Int.reduceLT, Int.reduceLE, Nat.reduceLeDiff, Nat.zero_add, Nat.reduceLT, Int.reduceSub, Int.reduceMul, Int.reducePow, Int.reduceNeg, Int.reduceToNat, Nat.reduceMul, Nat.reduceEqDiff, Int.reduceMod, Int.reduceDiv, decide_true, decide_false, ite_true, ite_false, Int.reduceEq, Nat.reduceBEq, Bool.false_eq_true, false_and, and_false, Int.toNat_natCast, Nat.succ_ne_zero, Nat.one_ne_zero, PyData.int.injEq, if_false, reduceCtorEq, Bool.not_eq_true', decide_eq_false_iff_not, ne_eq, true_or, or_true, Option.bind_some]
  refine ⟨by omega, ?_⟩
  refine lcW_pure (fun d => inD d (iL l)) (fun d => d) _ (fun d hd => ?_) ?_
  · obtain ⟨i, hi, rfl⟩ := iL_mem hd
    unfold lcS
    simp -implicitDefEqProofs only [↓bind_U, wq0, wq1, wq2, wq3, wq4, wq5, wq6, wq7, wq8, wq9, wq10, wq11, wq12, wq13, sSeq_, Option.map_some, List.all_cons, List.all_nil, Bool.and_true, List.map_cons, List.map_nil, List.length_cons, List.length_nil, List.length_append, List.set_cons_zero, List.set_cons_succ, List.nil_append, List.cons_append, List.getElem?_cons, decide_eq_true_eq, if_true, true_and, and_true, not_true, not_false, Bool.not_true, Bool.not_false, reduceIte, Nat.reduceAdd, Nat.reduceSub, Int.reduceAdd, Int.reduceLT, Int.reduceLE, Nat.reduceLeDiff, Nat.zero_add, Nat.reduceLT, Int.reduceSub, Int.reduceMul, Int.reducePow, Int.reduceNeg, Int.reduceToNat, Nat.reduceMul, Nat.reduceEqDiff, Int.reduceMod, Int.reduceDiv, decide_true, decide_false, ite_true, ite_false, Int.reduceEq, Nat.reduceBEq, Bool.false_eq_true, false_and, and_false, Int.toNat_natCast, Nat.succ_ne_zero, Nat.one_ne_zero, PyData.int.injEq, if_false, reduceCtorEq, Bool.not_eq_true', decide_eq_false_iff_not, ne_eq, true_or, or_true, Option.bind_some, flat_i, flat_ints, inD_ints]
    split <;> simp_all
  · rw [iL_filter, List.map_id']
    simp -implicitDefEqProofs only [↓bind_U, wq0, wq1, wq2, wq3, wq4, wq5, wq6, wq7, wq8, wq9, wq10, wq11, wq12, wq13, sSeq_, Option.map_some, List.all_cons, List.all_nil, Bool.and_true, List.map_cons, List.map_nil, List.length_cons, List.length_nil, List.length_append, List.set_cons_zero, List.set_cons_succ, List.nil_append, List.cons_append, List.getElem?_cons, decide_eq_true_eq, if_true, true_and, and_true, not_true, not_false, Bool.not_true, Bool.not_false, reduceIte, Nat.reduceAdd, Nat.reduceSub, Int.reduceAdd, Int.reduceLT, Int.reduceLE, Nat.reduceLeDiff, Nat.zero_add, Nat.reduceLT, Int.reduceSub, Int.reduceMul, Int.reducePow, Int.reduceNeg, Int.reduceToNat, Nat.reduceMul, Nat.reduceEqDiff, Int.reduceMod, Int.reduceDiv, decide_true, decide_false, ite_true, ite_false, Int.reduceEq, Nat.reduceBEq, Bool.false_eq_true, false_and, and_false, Int.toNat_natCast, Nat.succ_ne_zero, Nat.one_ne_zero, PyData.int.injEq, if_false, reduceCtorEq, Bool.not_eq_true', decide_eq_false_iff_not, ne_eq, true_or, or_true, Option.bind_some, inD_ints]
    exact k
theorem law_alive_wp {r l : List Int} (hr : r.length ≤ 1000000) {Q : RV → Ev → Prop} {v : U Q} (k : Q (.tmp (.list (iL (alv r l)))) [.non, .non]) : Wp (m_law_alive [.dat (.tuple (iL r)) .frz, .dat (.tuple (iL l)) .frz]) Q v := live_in_wp hr k
/-- the server behind the holders, if g is a holder -/
def sucD (r l : List Int) (f : Nat) (g : Int) : PyData := if g ∈ (alv r l).take f then .int ((alv r l).getD f 0) else .none
theorem getD_iL {l : List Int} {n : Nat} (h : n < l.length) : (iL l)[n]? = some (.int (l.getD n 0)) := by
  rw [iL_get, List.getElem?_eq_getElem h, List.getD_eq_getElem?_getD, List.getElem?_eq_getElem h]; rfl
theorem successor_wx {r l : List Int} {f : Nat} {g : Int} (hr : r.length ≤ 1000000) {Q : RV → Ev → Prop} {R : Ex → Ev → Prop} {v : U Q}
    (kn : (alv r l).length ≤ f → R ⟨"TooShort", some (.tuple (iL r))⟩ [.non, .non, .non, .non]) (ks : f < (alv r l).length → Q (.shr (sucD r l f g)) [.non, .non, .non, .non]) :
    Wx (m_successor [.dat (.tuple (iL r)) .frz, .dat (.tuple (iL l)) .frz, .dat (.int f) .frz, .dat (.int g) .frz]) Q R v := by
  have hl : (alv r l).length ≤ r.length := List.length_filter_le _ _
  refine def_wx rfl ?_
  unfold b_successor
  refine wx_seq ?_
  simp -implicitDefEqProofs only [↓bind_U, wq0, wq1, wq2, wq3, wq4, wq5, wq6, wq7, wq8, wq9, wq10, wq11, wq12, wq13, sSeq_, Option.map_some, List.all_cons, List.all_nil, Bool.and_true, List.map_cons, List.map_nil, List.length_cons, List.length_nil, List.length_append, List.set_cons_zero, List.set_cons_succ, List.nil_append, List.cons_append, List.getElem?_cons, decide_eq_true_eq, if_true, true_and, and_true, not_true, not_false, Bool.not_true, Bool.not_false, reduceIte, Nat.reduceAdd, Nat.reduceSub, Int.reduceAdd, Int.reduceLT, Int.reduceLE, Nat.reduceLeDiff, Nat.zero_add, Nat.reduceLT, Int.reduceSub, Int.reduceMul, Int.reducePow, Int.reduceNeg, Int.reduceToNat, Nat.reduceMul, Nat.reduceEqDiff, Int.reduceMod, Int.reduceDiv, decide_true, decide_false, ite_true, ite_false, Int.reduceEq, Nat.reduceBEq, Bool.false_eq_true, false_and, and_false, Int.toNat_natCast, Nat.succ_ne_zero, Nat.one_ne_zero, PyData.int.injEq, if_false, reduceCtorEq, Bool.not_eq_true', decide_eq_false_iff_not, ne_eq, true_or, or_true, Option.bind_some]
  refine live_in_wp hr ?_
  by_cases h : (alv r l).length ≤ f
  · have h' : (((alv r l).length : Nat) : Int) ≤ (f : Int) := by omega
    simp -implicitDefEqProofs only [↓bind_U, wq0, wq1, wq2, wq3, wq4, wq5, wq6, wq7, wq8, wq9, wq10, wq11, wq12, wq13, sSeq_, Option.map_some, List.all_cons, List.all_nil, Bool.and_true, List.map_cons, List.map_nil, List.length_cons, List.length_nil, List.length_append, List.set_cons_zero, List.set_cons_succ, List.nil_append, List.cons_append, List.getElem?_cons, decide_eq_true_eq, if_true, true_and, and_true, not_true, not_false, Bool.not_true, Bool.not_false, reduceIte, Nat.reduceAdd, Nat.reduceSub, Int.reduceAdd, Int.reduceLT, Int.reduceLE, Nat.reduceLeDiff, Nat.zero_add, Nat.reduceLT, Int.reduceSub, Int.reduceMul, Int.reducePow, Int.reduceNeg, Int.reduceToNat, Nat.reduceMul, Nat.reduceEqDiff, Int.reduceMod, Int.reduceDiv, decide_true, decide_false, ite_true, ite_false, Int.reduceEq, Nat.reduceBEq, Bool.false_eq_true, false_and, and_false, Int.toNat_natCast, Nat.succ_ne_zero, Nat.one_ne_zero, PyData.int.injEq, if_false, reduceCtorEq, Bool.not_eq_true', decide_eq_false_iff_not, ne_eq, true_or, or_true, Option.bind_some, iL_len, h']
    exact kn h
  · have h' : ¬ (((alv r l).length : Nat) : Int) ≤ (f : Int) := by omega
    have ks := ks (by omega)
    have ea : atI (iL (alv r l)) f = some (.int ((alv r l).getD f 0)) := atI_n (getD_iL (by omega))
    simp -implicitDefEqProofs only [↓bind_U, wq0, wq1, wq2, wq3, wq4, wq5, wq6, wq7, wq8, wq9, wq10, wq11, wq12, wq13, sSeq_, Option.map_some, List.all_cons, List.all_nil, Bool.and_true, List.map_cons, List.map_nil, List.length_cons, List.length_nil, List.length_append, List.set_cons_zero, List.set_cons_succ, List.nil_append, List.cons_append, List.getElem?_cons, decide_eq_true_eq, if_true, true_and, and_true, not_true, not_false, Bool.not_true, Bool.not_false, reduceIte, Nat.reduceAdd, Nat.reduceSub, Int.reduceAdd, Int.reduceLT, Int.reduceLE, Nat.reduceLeDiff, Nat.zero_add, Nat.reduceLT, Int.reduceSub, Int.reduceMul, Int.reducePow, Int.reduceNeg, Int.reduceToNat, Nat.reduceMul, Nat.reduceEqDiff, Int.reduceMod, Int.reduceDiv, decide_true, decide_false, ite_true, ite_false, Int.reduceEq, Nat.reduceBEq, Bool.false_eq_true, false_and, and_false, Int.toNat_natCast, Nat.succ_ne_zero, Nat.one_ne_zero, PyData.int.injEq, if_false, reduceCtorEq, Bool.not_eq_true', decide_eq_false_iff_not, ne_eq, true_or, or_true, Option.bind_some, iL_len, h']
    rw [cutD_to (by omega), Int.toNat_natCast, take_iL]
    unfold sucD at ks
    by_cases hg : g ∈ (alv r l).take f
    · rw [if_pos hg] at ks
      simp -implicitDefEqProofs only [↓bind_U, wq0, wq1, wq2, wq3, wq4, wq5, wq6, wq7, wq8, wq9, wq10, wq11, wq12, wq13, sSeq_, Option.map_some, List.all_cons, List.all_nil, Bool.and_true, List.map_cons, List.map_nil, List.length_cons, List.length_nil, List.length_append, List.set_cons_zero, List.set_cons_succ, List.nil_append, List.cons_append, List.getElem?_cons, decide_eq_true_eq, if_true, true_and, and_true, not_true, not_false, Bool.not_true, Bool.not_false, reduceIte, Nat.reduceAdd, Nat.reduceSub, Int.reduceAdd, Int.reduceLT, Int.reduceLE, Nat.reduceLeDiff, Nat.zero_add, Nat.reduceLT, Int.reduceSub, Int.reduceMul, Int.reducePow, Int.reduceNeg, Int.reduceToNat, Nat.reduceMul, Nat.reduceEqDiff, Int.reduceMod, Int.reduceDiv, decide_true, decide_false, ite_true, ite_false, Int.reduceEq, Nat.reduceBEq, Bool.false_eq_true, false_and, and_false, Int.toNat_natCast, Nat.succ_ne_zero, Nat.one_ne_zero, PyData.int.injEq, if_false, reduceCtorEq, Bool.not_eq_true', decide_eq_false_iff_not, ne_eq, true_or, or_true, Option.bind_some, flat_i, flat_ints, inD_ints, hg, ea]
      exact ks
    · rw [if_neg hg] at ks
      simp -implicitDefEqProofs only [↓bind_U, wq0, wq1, wq2, wq3, wq4, wq5, wq6, wq7, wq8, wq9, wq10, wq11, wq12, wq13, sSeq_, Option.map_some, List.all_cons, List.all_nil, Bool.and_true, List.map_cons, List.map_nil, List.length_cons, List.length_nil, List.length_append, List.set_cons_zero, List.set_cons_succ, List.nil_append, List.cons_append, List.getElem?_cons, decide_eq_true_eq, if_true, true_and, and_true, not_true, not_false, Bool.not_true, Bool.not_false, reduceIte, Nat.reduceAdd, Nat.reduceSub, Int.reduceAdd, Int.reduceLT, Int.reduceLE, Nat.reduceLeDiff, Nat.zero_add, Nat.reduceLT, Int.reduceSub, Int.reduceMul, Int.reducePow, Int.reduceNeg, Int.reduceToNat, Nat.reduceMul, Nat.reduceEqDiff, Int.reduceMod, Int.reduceDiv, decide_true, decide_false, ite_true, ite_false, Int.reduceEq, Nat.reduceBEq, Bool.false_eq_true, false_and, and_false, Int.toNat_natCast, Nat.succ_ne_zero, Nat.one_ne_zero, PyData.int.injEq, if_false, reduceCtorEq, Bool.not_eq_true', decide_eq_false_iff_not, ne_eq, true_or, or_true, Option.bind_some, flat_i, flat_ints, inD_ints, hg]
      exact ks
mutual
/-- no text in it, no dict -/
def noS : PyData → Bool
  | .none => true
  | .bool _ => true
  | .int _ => true
  | .str _ => false
  | .list ds => noSA ds
  | .tuple ds => noSA ds
  | .dict _ => false
def noSA : List PyData → Bool
  | [] => true
  | d :: ds => noS d && noSA ds
end
theorem noSA_iL : ∀ l : List Int, noSA (iL l) = true
  | [] => rfl
  | a :: l => by
    show (noS (.int a) && noSA (iL l)) = true
    rw [noSA_iL l]; rfl
theorem strOk_from : ∀ (ts : List Str) (k : Nat) (acc : Str), PyData.strOk acc = true → (∀ t ∈ ts, PyData.strOk t = true) → PyData.strOk (textFrom k acc ts) = true
  | [], _, _, h, _ => h
  | t :: ts, k, acc, h, g => strOk_from ts (k + 1) _ (strOk_app (strOk_app h (strOk_of _)) (g t (List.mem_cons_self ..))) fun u hu => g u (List.mem_cons_of_mem _ hu)
mutual
theorem shown_ok : ∀ d : PyData, noS d = true → PyData.strOk d.shown = true
  | .none, _ => strOk_of "None"
  | .bool b, _ => by cases b; exact strOk_of "False"; exact strOk_of "True"
  | .int i, _ => strOk_of _
  | .str _, h => by simp [noS] at h
  | .list ds, h => by
    simp only [PyData.shown]
    unfold listText
    exact strOk_app (strOk_from _ 0 _ (strOk_of "[") (shownA_ok ds (by simpa [noS] using h))) (strOk_of "]")
  | .tuple ds, h => by
    simp only [PyData.shown]
    unfold tupleText
    exact strOk_app (strOk_app (strOk_of "(") (strOk_join _ (shownA_ok ds (by simpa [noS] using h)))) (strOk_of _)
  | .dict _, h => by simp [noS] at h
theorem shownA_ok : ∀ ds : List PyData, noSA ds = true → ∀ t ∈ PyData.shownAll ds, PyData.strOk t = true
  | [], _, t, ht => by simp [PyData.shownAll] at ht
  | d :: ds, h, t, ht => by
    simp only [noSA, Bool.and_eq_true] at h
    simp only [PyData.shownAll, List.mem_cons] at ht
    rcases ht with rfl | ht
    · exact shown_ok d h.1
    · exact shownA_ok ds h.2 t ht
end
mutual
/-- texts in it can be shown, no dict -/
def okT : PyData → Bool
  | .none => true
  | .bool _ => true
  | .int _ => true
  | .str x => PyData.strOk (reprText x)
  | .list ds => okTA ds
  | .tuple ds => okTA ds
  | .dict _ => false
def okTA : List PyData → Bool
  | [] => true
  | d :: ds => okT d && okTA ds
end
theorem okTA_iL : ∀ l : List Int, okTA (iL l) = true
  | [] => rfl
  | a :: l => by
    show (okT (.int a) && okTA (iL l)) = true
    rw [okTA_iL l]; rfl
mutual
theorem shown_okT : ∀ d : PyData, okT d = true → PyData.strOk d.shown = true
  | .none, _ => strOk_of "None"
  | .bool b, _ => by cases b; exact strOk_of "False"; exact strOk_of "True"
  | .int i, _ => strOk_of _
  | .str x, h => by simpa [okT, PyData.shown] using h
  | .list ds, h => by
    simp only [PyData.shown]
    unfold listText
    exact strOk_app (strOk_from _ 0 _ (strOk_of "[") (shownA_okT ds (by simpa [okT] using h))) (strOk_of "]")
  | .tuple ds, h => by
    simp only [PyData.shown]
    unfold tupleText
    exact strOk_app (strOk_app (strOk_of "(") (strOk_join _ (shownA_okT ds (by simpa [okT] using h)))) (strOk_of _)
  | .dict _, h => by simp [okT] at h
theorem shownA_okT : ∀ ds : List PyData, okTA ds = true → ∀ t ∈ PyData.shownAll ds, PyData.strOk t = true
  | [], _, t, ht => by simp [PyData.shownAll] at ht
  | d :: ds, h, t, ht => by
    simp only [okTA, Bool.and_eq_true] at h
    simp only [PyData.shownAll, List.mem_cons] at ht
    rcases ht with rfl | ht
    · exact shown_okT d h.1
    · exact shownA_okT ds h.2 t ht
end
mutual
theorem lay_noS : ∀ d : PyData, noS d = true → d.canLay0 = true
  | .none, _ => by simp [PyData.canLay0]
  | .bool b, _ => by simp [PyData.canLay0]
  | .int i, _ => by simp [PyData.canLay0]
  | .str _, h => by simp [noS] at h
  | .list ds, h => by simpa [PyData.canLay0] using lay_noSA ds (by simpa [noS] using h)
  | .tuple ds, h => by simpa [PyData.canLay0] using lay_noSA ds (by simpa [noS] using h)
  | .dict _, h => by simp [noS] at h
theorem lay_noSA : ∀ ds : List PyData, noSA ds = true → PyData.canLayAll0 ds = true
  | [], _ => by simp [PyData.canLayAll0]
  | d :: ds, h => by
    simp only [noSA, Bool.and_eq_true] at h
    simp only [PyData.canLayAll0, Bool.and_eq_true]
    exact ⟨lay_noS d h.1, lay_noSA ds h.2⟩
end
theorem shaped_noS {d : PyData} (h : noS d = true) (hd : d.depth ≤ 64) : SeqAt.shaped d = true := by
  unfold SeqAt.shaped
  rw [lay_noS d h, decide_eq_true hd]; rfl
theorem eqv_noS {d : PyData} (h : noS d = true) : PyData.eqv d d = true := SeqAt.eqv_refl d (lay_noS d h)
/-! lists of tuples of whole numbers -/
def tL (ls : List (List Int)) : List PyData := ls.map fun l => .tuple (iL l)
theorem tL_len (ls : List (List Int)) : (tL ls).length = ls.length := List.length_map _
theorem tL_app (a b : List (List Int)) : tL (a ++ b) = tL a ++ tL b := List.map_append
theorem tL_get {ls : List (List Int)} {i : Nat} : (tL ls)[i]? = (ls[i]?).map fun l => .tuple (iL l) := List.getElem?_map
theorem tL_mem {d : PyData} {ls : List (List Int)} (h : d ∈ tL ls) : ∃ l, l ∈ ls ∧ d = .tuple (iL l) := by
  obtain ⟨l, h1, h2⟩ := List.mem_map.mp h
  exact ⟨l, h1, h2.symm⟩
theorem noS_tL : ∀ ls : List (List Int), noSA (tL ls) = true
  | [] => rfl
  | l :: ls => by
    show (noS (.tuple (iL l)) && noSA (tL ls)) = true
    rw [noS_tL ls]
    simp [noS, noSA_iL]
theorem depth_tL : ∀ ls : List (List Int), PyData.depthAll (tL ls) ≤ 2
  | [] => by simp [tL, PyData.depthAll]
  | l :: ls => by
    have h1 := depth_tL ls
    have h2 := depth_ints l
    have : PyData.depthAll (tL (l :: ls)) = max (PyData.depth (.tuple (iL l))) (PyData.depthAll (tL ls)) := by
      show PyData.depthAll (.tuple (iL l) :: tL ls) = _
      simp [PyData.depthAll]
    rw [this]
    simp only [PyData.depth]
    omega
theorem shaped_tL (ls : List (List Int)) : SeqAt.shaped (.list (tL ls)) = true := shaped_noS (by simp [noS, noS_tL]) (by have := depth_tL ls; simp only [PyData.depth]; omega)
theorem shaped_tT (ls : List (List Int)) : SeqAt.shaped (.tuple (tL ls)) = true := shaped_noS (by simp [noS, noS_tL]) (by have := depth_tL ls; simp only [PyData.depth]; omega)
theorem inD_tL (b : List Int) : ∀ ls : List (List Int), inD (.tuple (iL b)) (tL ls) = decide (b ∈ ls)
  | [] => by simp [inD, tL]
  | l :: ls => by
    have ih := inD_tL b ls
    unfold inD at ih ⊢
    show (PyData.eqv (.tuple (iL l)) (.tuple (iL b)) || (tL ls).any _) = _
    rw [ih, eqv_tt]
    by_cases h : l = b
    · subst h; simp
    · have h' : b ≠ l := fun e => h e.symm
      simp [h, h']
theorem count_tL (b : List Int) : ∀ ls : List (List Int), ((tL ls).countP fun z => PyData.eqv z (.tuple (iL b))) = ls.countP fun l => decide (l = b)
  | [] => rfl
  | l :: ls => by
    have ih := count_tL b ls
    show ((PyData.tuple (iL l) :: tL ls).countP _) = _
    rw [List.countP_cons, List.countP_cons, ih, eqv_tt]
theorem ixD_tL {b : List Int} {ls : List (List Int)} {j : Nat} (hj : ls[j]? = some b) (hn : ∀ m, m < j → ls[m]? ≠ some b) : ixD (tL ls) (.tuple (iL b)) = some j := by
  unfold ixD
  obtain ⟨h1, h2⟩ := List.getElem?_eq_some_iff.mp hj
  have get : ∀ m (hm : m < ls.length), (tL ls)[m]'(by rw [tL_len]; exact hm) = .tuple (iL ls[m]) := fun m hm => by unfold tL; rw [List.getElem_map]
  refine List.findIdx?_eq_some_iff_getElem.mpr ⟨by rw [tL_len]; exact h1, ?_, fun m hm => ?_⟩
  · rw [get j h1, h2, eqv_tt]; simp
  · have hm' : m < ls.length := by omega
    rw [get m hm', eqv_tt]
    have := hn m hm
    rw [List.getElem?_eq_getElem hm'] at this
    simpa using this
theorem eqv_tL : ∀ a b : List (List Int), PyData.eqvAll (tL a) (tL b) = decide (a = b)
  | [], [] => by simp [tL, PyData.eqvAll]
  | [], _ :: _ => by simp [tL, PyData.eqvAll]
  | _ :: _, [] => by simp [tL, PyData.eqvAll]
  | x :: a, y :: b => by
    have ih := eqv_tL a b
    show PyData.eqvAll (.tuple (iL x) :: tL a) (.tuple (iL y) :: tL b) = _
    rw [PyData.eqvAll, ih, eqv_tt]
    by_cases h1 : x = y <;> by_cases h2 : a = b <;> simp [h1, h2]
theorem eqv_tLl (a b : List (List Int)) : PyData.eqv (.list (tL a)) (.list (tL b)) = decide (a = b) := by rw [PyData.eqv]; exact eqv_tL a b
theorem eqv_tLt (a b : List (List Int)) : PyData.eqv (.tuple (tL a)) (.tuple (tL b)) = decide (a = b) := by rw [PyData.eqv]; exact eqv_tL a b
/-! an interval of places -/
theorem count_rng {F M : Nat} : ∀ c, (List.range c).countP (fun a => decide (F ≤ a ∧ a < F + M)) = min c (F + M) - min c F
  | 0 => by simp
  | c + 1 => by
    rw [List.range_succ, List.countP_append, count_rng c, List.countP_singleton]
    by_cases h : F ≤ c ∧ c < F + M
    · rw [decide_eq_true h]; simp only [if_true]; omega
    · rw [decide_eq_false h]; simp only [Bool.false_eq_true, if_false]; omega
/-- it can be shown; depth and length of its text -/
structure Rp (p z : Nat) (d : PyData) : Prop where
  s : d.showable = true
  n : d.hasDict = false
  p : d.depth ≤ p
  z : shB d ≤ z
  t : okT d = true
structure RpA (p z : Nat) (ds : List PyData) : Prop where
  s : PyData.showableAll ds = true
  n : PyData.hasDictAll ds = false
  p : PyData.depthAll ds ≤ p
  z : shBA ds ≤ z
  t : okTA ds = true
theorem Rp.mono {p z p' z' : Nat} {d : PyData} (h : Rp p z d) (hp : p ≤ p') (hz : z ≤ z') : Rp p' z' d := ⟨h.s, h.n, Nat.le_trans h.p hp, Nat.le_trans h.z hz, h.t⟩
theorem RpA.nil {p z : Nat} : RpA p z [] := ⟨rfl, rfl, by simp [PyData.depthAll], by simp [shBA], rfl⟩
theorem RpA.cons {p z y : Nat} {d : PyData} {ds : List PyData} (h : Rp p y d) (g : RpA p z ds) : RpA p (y + 2 + z) (d :: ds) := by
  refine ⟨by simp [PyData.showableAll, h.s, g.s], by simp [PyData.hasDictAll, h.n, g.n], ?_, ?_, by simp [okTA, h.t, g.t]⟩
  · simp only [PyData.depthAll]; have := h.p; have := g.p; omega
  · simp only [shBA]; have := h.z; have := g.z; omega
theorem rpA {p z : Nat} : ∀ ds : List PyData, (∀ d ∈ ds, Rp p z d) → RpA p (ds.length * (z + 2)) ds
  | [], _ => RpA.nil
  | d :: ds, h => by
    have h1 := h d (List.mem_cons_self ..)
    have h2 := rpA ds fun x hx => h x (List.mem_cons_of_mem _ hx)
    have := RpA.cons h1 h2
    rw [List.length_cons, Nat.succ_mul, Nat.add_comm]
    exact this
theorem RpA.tup {p z : Nat} {ds : List PyData} (h : RpA p z ds) : Rp (p + 1) (z + 3) (.tuple ds) := by
  have := h.p; have := h.z
  exact ⟨by simpa [PyData.showable] using h.s, by simpa [PyData.hasDict] using h.n, by simp only [PyData.depth]; omega, by simp only [shB]; omega, by simpa [okT] using h.t⟩
theorem RpA.lst {p z : Nat} {ds : List PyData} (h : RpA p z ds) : Rp (p + 1) (z + 2) (.list ds) := by
  have := h.p; have := h.z
  exact ⟨by simpa [PyData.showable] using h.s, by simpa [PyData.hasDict] using h.n, by simp only [PyData.depth]; omega, by simp only [shB]; omega, by simpa [okT] using h.t⟩
theorem rp_i {i : Int} {k : Nat} (h : bits i ≤ k) (hk : k ≤ 1900) : Rp 0 (k + 2) (.int i) := by
  refine ⟨?_, rfl, by simp [PyData.depth], by simp only [shB]; omega, rfl⟩
  unfold bits at h
  exact decide_eq_true (p := i.natAbs.log2 < 1920) (by omega)
theorem rp_tup {p z k : Nat} {ds : List PyData} (h : ∀ d ∈ ds, Rp p z d) (hl : ds.length ≤ k) : Rp (p + 1) (k * (z + 2) + 3) (.tuple ds) := by
  refine (rpA ds h).tup.mono (Nat.le_refl _) ?_
  have := Nat.mul_le_mul_right (z + 2) hl
  omega
theorem bits_b {x : Int} {k n : Nat} (h0 : 0 ≤ x) (h1 : x < n) (hk : n ≤ 2 ^ k) : bits x ≤ k := by
  refine Bd.bits (k := k) ?_
  obtain ⟨m, rfl⟩ : ∃ m : Nat, x = m := ⟨x.toNat, by omega⟩
  exact Bd.nat (by omega)
theorem rp_tI {l : List Int} {n k : Nat} (h : ∀ x ∈ l, 0 ≤ x ∧ x < (n : Int)) (hn : n ≤ 64) (hl : l.length ≤ k) : Rp 1 (k * 10 + 3) (.tuple (iL l)) := by
  refine rp_tup (p := 0) (z := 8) (fun d hd => ?_) (by rw [iL_len]; exact hl)
  obtain ⟨x, hx, rfl⟩ := iL_mem hd
  exact rp_i (bits_b (h x hx).1 (h x hx).2 (k := 6) (by omega)) (by decide)
theorem rp_txt : Rp 0 100 (.str "too short") := by
  have h1 : (reprText "too short").length ≤ 100 := by decide +kernel
  have h2 : PyData.strOk (reprText "too short") = true := by decide +kernel
  exact ⟨rfl, rfl, by simp [PyData.depth], by simp only [shB]; exact h1, by simpa [okT] using h2⟩
/-- what repr wants -/
structure RpD (d : PyData) : Prop where
  s : d.showable = true
  n : d.hasDict = false
  p : d.depth ≤ 64
  z : shB d ≤ 16777216
  t : SeqAt.shaped (.str d.shown) = true
theorem Rp.d {p z : Nat} {d : PyData} (h : Rp p z d) (hp : p ≤ 64) (hz : z ≤ 16777216) : RpD d := ⟨h.s, h.n, Nat.le_trans h.p hp, Nat.le_trans h.z hz, shaped_s (shown_okT d h.t)⟩
theorem rp_b {b : Bool} : Rp 0 10 (.bool b) := by
  cases b <;> exact ⟨by decide, rfl, by decide, by decide, rfl⟩
theorem law_short_ok {d : PyData} {Q : RV → Ev → Prop} {v : U Q} (k : Q (.shr (.tuple [.str "returned", d])) [.non]) : Wp (m_law_short (.ok d) [.scr .thk]) Q v := by
  refine def_wp rfl ?_
  unfold b_law_short
  simp -implicitDefEqProofs only [↓bind_U, wq0, wq1, wq2, wq3, wq4, wq5, wq6, wq7, wq8, wq9, wq10, wq11, wq12, wq13, sSeq_, Option.map_some, List.all_cons, List.all_nil, Bool.and_true, List.map_cons, List.map_nil, List.length_cons, List.length_nil, List.length_append, List.set_cons_zero, List.set_cons_succ, List.nil_append, List.cons_append, List.getElem?_cons, decide_eq_true_eq, if_true, true_and, and_true, not_true, not_false, Bool.not_true, Bool.not_false, reduceIte, Nat.reduceAdd, Nat.reduceSub, Int.reduceAdd, Int.reduceLT, Int.reduceLE, Nat.reduceLeDiff, Nat.zero_add, Nat.reduceLT, Int.reduceSub, Int.reduceMul, Int.reducePow, Int.reduceNeg, Int.reduceToNat, Nat.reduceMul, Nat.reduceEqDiff, Int.reduceMod, Int.reduceDiv, decide_true, decide_false, ite_true, ite_false, Int.reduceEq, Nat.reduceBEq, Bool.false_eq_true, false_and, and_false, Int.toNat_natCast, Nat.succ_ne_zero, Nat.one_ne_zero, PyData.int.injEq, if_false, reduceCtorEq, Bool.not_eq_true', decide_eq_false_iff_not, ne_eq, true_or, or_true, Option.bind_some]
  exact k
theorem law_short_exc {d : PyData} {Q : RV → Ev → Prop} {v : U Q} (k : Q (.shr (.tuple [.str "short", d])) [.non]) : Wp (m_law_short (.exc ⟨"TooShort", some d⟩) [.scr .thk]) Q v := by
  have c1 : (["TooShort"].contains "TooShort") = true := by decide
  refine def_wp rfl ?_
  unfold b_law_short
  simp -implicitDefEqProofs only [↓bind_U, wq0, wq1, wq2, wq3, wq4, wq5, wq6, wq7, wq8, wq9, wq10, wq11, wq12, wq13, sSeq_, Option.map_some, List.all_cons, List.all_nil, Bool.and_true, List.map_cons, List.map_nil, List.length_cons, List.length_nil, List.length_append, List.set_cons_zero, List.set_cons_succ, List.nil_append, List.cons_append, List.getElem?_cons, decide_eq_true_eq, if_true, true_and, and_true, not_true, not_false, Bool.not_true, Bool.not_false, reduceIte, Nat.reduceAdd, Nat.reduceSub, Int.reduceAdd, Int.reduceLT, Int.reduceLE, Nat.reduceLeDiff, Nat.zero_add, Nat.reduceLT, Int.reduceSub, Int.reduceMul, Int.reducePow, Int.reduceNeg, Int.reduceToNat, Nat.reduceMul, Nat.reduceEqDiff, Int.reduceMod, Int.reduceDiv, decide_true, decide_false, ite_true, ite_false, Int.reduceEq, Nat.reduceBEq, Bool.false_eq_true, false_and, and_false, Int.toNat_natCast, Nat.succ_ne_zero, Nat.one_ne_zero, PyData.int.injEq, if_false, reduceCtorEq, Bool.not_eq_true', decide_eq_false_iff_not, ne_eq, true_or, or_true, Option.bind_some, c1]
  exact ⟨id, k⟩
theorem law_next_wp {r l : List Int} {f : Nat} {g : Int} (hr : r.length ≤ 1000000) {Q : RV → Ev → Prop} {v : U Q}
    (kn : (alv r l).length ≤ f → Q (.shr (.tuple [.str "short", .tuple (iL r)])) [.non, .non, .non, .non]) (ks : f < (alv r l).length → Q (.shr (.tuple [.str "returned", sucD r l f g])) [.non, .non, .non, .non]) :
    Wp (m_law_next [.dat (.tuple (iL r)) .frz, .dat (.tuple (iL l)) .frz, .dat (.int f) .frz, .dat (.int g) .frz]) Q v := by
  have hl : (alv r l).length ≤ r.length := List.length_filter_le _ _
  refine def_wp rfl ?_
  unfold b_law_next
  simp -implicitDefEqProofs only [↓bind_U, wq0, wq1, wq2, wq3, wq4, wq5, wq6, wq7, wq8, wq9, wq10, wq11, wq12, wq13, sSeq_, Option.map_some, List.all_cons, List.all_nil, Bool.and_true, List.map_cons, List.map_nil, List.length_cons, List.length_nil, List.length_append, List.set_cons_zero, List.set_cons_succ, List.nil_append, List.cons_append, List.getElem?_cons, decide_eq_true_eq, if_true, true_and, and_true, not_true, not_false, Bool.not_true, Bool.not_false, reduceIte, Nat.reduceAdd, Nat.reduceSub, Int.reduceAdd, Int.reduceLT, Int.reduceLE, Nat.reduceLeDiff, Nat.zero_add, Nat.reduceLT, Int.reduceSub, Int.reduceMul, Int.reducePow, Int.reduceNeg, Int.reduceToNat, Nat.reduceMul, Nat.reduceEqDiff, Int.reduceMod, Int.reduceDiv, decide_true, decide_false, ite_true, ite_false, Int.reduceEq, Nat.reduceBEq, Bool.false_eq_true, false_and, and_false, Int.toNat_natCast, Nat.succ_ne_zero, Nat.one_ne_zero, PyData.int.injEq, if_false, reduceCtorEq, Bool.not_eq_true', decide_eq_false_iff_not, ne_eq, true_or, or_true, Option.bind_some]
  refine law_alive_wp hr ?_
  by_cases h : (alv r l).length ≤ f
  · have h' : (((alv r l).length : Nat) : Int) ≤ (f : Int) := by omega
    simp -implicitDefEqProofs only [↓bind_U, wq0, wq1, wq2, wq3, wq4, wq5, wq6, wq7, wq8, wq9, wq10, wq11, wq12, wq13, sSeq_, Option.map_some, List.all_cons, List.all_nil, Bool.and_true, List.map_cons, List.map_nil, List.length_cons, List.length_nil, List.length_append, List.set_cons_zero, List.set_cons_succ, List.nil_append, List.cons_append, List.getElem?_cons, decide_eq_true_eq, if_true, true_and, and_true, not_true, not_false, Bool.not_true, Bool.not_false, reduceIte, Nat.reduceAdd, Nat.reduceSub, Int.reduceAdd, Int.reduceLT, Int.reduceLE, Nat.reduceLeDiff, Nat.zero_add, Nat.reduceLT, Int.reduceSub, Int.reduceMul, Int.reducePow, Int.reduceNeg, Int.reduceToNat, Nat.reduceMul, Nat.reduceEqDiff, Int.reduceMod, Int.reduceDiv, decide_true, decide_false, ite_true, ite_false, Int.reduceEq, Nat.reduceBEq, Bool.false_eq_true, false_and, and_false, Int.toNat_natCast, Nat.succ_ne_zero, Nat.one_ne_zero, PyData.int.injEq, if_false, reduceCtorEq, Bool.not_eq_true', decide_eq_false_iff_not, ne_eq, true_or, or_true, Option.bind_some, iL_len, h']
    exact kn h
  · have h' : ¬ (((alv r l).length : Nat) : Int) ≤ (f : Int) := by omega
    have ks := ks (by omega)
    have ea : atI (iL (alv r l)) f = some (.int ((alv r l).getD f 0)) := atI_n (getD_iL (by omega))
    simp -implicitDefEqProofs only [↓bind_U, wq0, wq1, wq2, wq3, wq4, wq5, wq6, wq7, wq8, wq9, wq10, wq11, wq12, wq13, sSeq_, Option.map_some, List.all_cons, List.all_nil, Bool.and_true, List.map_cons, List.map_nil, List.length_cons, List.length_nil, List.length_append, List.set_cons_zero, List.set_cons_succ, List.nil_append, List.cons_append, List.getElem?_cons, decide_eq_true_eq, if_true, true_and, and_true, not_true, not_false, Bool.not_true, Bool.not_false, reduceIte, Nat.reduceAdd, Nat.reduceSub, Int.reduceAdd, Int.reduceLT, Int.reduceLE, Nat.reduceLeDiff, Nat.zero_add, Nat.reduceLT, Int.reduceSub, Int.reduceMul, Int.reducePow, Int.reduceNeg, Int.reduceToNat, Nat.reduceMul, Nat.reduceEqDiff, Int.reduceMod, Int.reduceDiv, decide_true, decide_false, ite_true, ite_false, Int.reduceEq, Nat.reduceBEq, Bool.false_eq_true, false_and, and_false, Int.toNat_natCast, Nat.succ_ne_zero, Nat.one_ne_zero, PyData.int.injEq, if_false, reduceCtorEq, Bool.not_eq_true', decide_eq_false_iff_not, ne_eq, true_or, or_true, Option.bind_some, iL_len, h']
    rw [cutD_to (by omega), Int.toNat_natCast, take_iL]
    unfold sucD at ks
    by_cases hg : g ∈ (alv r l).take f
    · rw [if_pos hg] at ks
      simp -implicitDefEqProofs only [↓bind_U, wq0, wq1, wq2, wq3, wq4, wq5, wq6, wq7, wq8, wq9, wq10, wq11, wq12, wq13, sSeq_, Option.map_some, List.all_cons, List.all_nil, Bool.and_true, List.map_cons, List.map_nil, List.length_cons, List.length_nil, List.length_append, List.set_cons_zero, List.set_cons_succ, List.nil_append, List.cons_append, List.getElem?_cons, decide_eq_true_eq, if_true, true_and, and_true, not_true, not_false, Bool.not_true, Bool.not_false, reduceIte, Nat.reduceAdd, Nat.reduceSub, Int.reduceAdd, Int.reduceLT, Int.reduceLE, Nat.reduceLeDiff, Nat.zero_add, Nat.reduceLT, Int.reduceSub, Int.reduceMul, Int.reducePow, Int.reduceNeg, Int.reduceToNat, Nat.reduceMul, Nat.reduceEqDiff, Int.reduceMod, Int.reduceDiv, decide_true, decide_false, ite_true, ite_false, Int.reduceEq, Nat.reduceBEq, Bool.false_eq_true, false_and, and_false, Int.toNat_natCast, Nat.succ_ne_zero, Nat.one_ne_zero, PyData.int.injEq, if_false, reduceCtorEq, Bool.not_eq_true', decide_eq_false_iff_not, ne_eq, true_or, or_true, Option.bind_some, flat_i, flat_ints, inD_ints, hg, ea]
      exact ks
    · rw [if_neg hg] at ks
      simp -implicitDefEqProofs only [↓bind_U, wq0, wq1, wq2, wq3, wq4, wq5, wq6, wq7, wq8, wq9, wq10, wq11, wq12, wq13, sSeq_, Option.map_some, List.all_cons, List.all_nil, Bool.and_true, List.map_cons, List.map_nil, List.length_cons, List.length_nil, List.length_append, List.set_cons_zero, List.set_cons_succ, List.nil_append, List.cons_append, List.getElem?_cons, decide_eq_true_eq, if_true, true_and, and_true, not_true, not_false, Bool.not_true, Bool.not_false, reduceIte, Nat.reduceAdd, Nat.reduceSub, Int.reduceAdd, Int.reduceLT, Int.reduceLE, Nat.reduceLeDiff, Nat.zero_add, Nat.reduceLT, Int.reduceSub, Int.reduceMul, Int.reducePow, Int.reduceNeg, Int.reduceToNat, Nat.reduceMul, Nat.reduceEqDiff, Int.reduceMod, Int.reduceDiv, decide_true, decide_false, ite_true, ite_false, Int.reduceEq, Nat.reduceBEq, Bool.false_eq_true, false_and, and_false, Int.toNat_natCast, Nat.succ_ne_zero, Nat.one_ne_zero, PyData.int.injEq, if_false, reduceCtorEq, Bool.not_eq_true', decide_eq_false_iff_not, ne_eq, true_or, or_true, Option.bind_some, flat_i, flat_ints, inD_ints, hg]
      exact ks
theorem rp_str {x : String} (h1 : (reprText x).length ≤ 100) (h2 : PyData.strOk (reprText x) = true) : Rp 0 100 (.str x) := ⟨rfl, rfl, by simp [PyData.depth], by simp only [shB]; exact h1, by simpa [okT] using h2⟩
theorem rp_none : Rp 0 10 .none := ⟨rfl, rfl, by simp [PyData.depth], by decide, rfl⟩
theorem rp_short {n : Nat} (n60 : n ≤ 60) {r : List Int} (h : ∀ x ∈ r, 0 ≤ x ∧ x < (n : Int)) (hl : r.length ≤ 60) : RpD (.tuple [.str "short", .tuple (iL r)]) :=
  (RpA.cons ((rp_str (x := "short") (by decide +kernel) (by decide +kernel)).mono (p' := 1) (by decide) (Nat.le_refl _)) (.cons (rp_tI (k := 60) h (by omega) hl) (.nil (z := 0)))).tup.d (by decide) (by decide)
theorem rp_ret {n : Nat} (n60 : n ≤ 60) {r l : List Int} {f : Nat} {g : Int} (h : ∀ x ∈ r, 0 ≤ x ∧ x < (n : Int)) (hf : f < (alv r l).length) : RpD (.tuple [.str "returned", sucD r l f g]) := by
  have hs : Rp 0 10 (sucD r l f g) := by
    unfold sucD
    split
    · have hx := h _ (List.mem_filter.mp (show (alv r l).getD f 0 ∈ alv r l by rw [List.getD_eq_getElem?_getD, List.getElem?_eq_getElem hf]; exact List.getElem_mem _)).1
      exact (rp_i (bits_b hx.1 hx.2 (k := 6) (by omega)) (by decide)).mono (Nat.le_refl _) (by decide)
    · exact rp_none
  exact (RpA.cons ((rp_str (x := "returned") (by decide +kernel) (by decide +kernel)).mono (p' := 1) (by decide) (Nat.le_refl _)) (.cons (hs.mono (by decide) (Nat.le_refl _)) (.nil (z := 0)))).tup.d (by decide) (by decide)
theorem law_true : ∀ ns : List Int, ns.length ≤ 63 → (∀ m ∈ ns, bits m ≤ 1048576) → ∃ ρ, m_law [.scr ns] = .ok (.shr (.bool true)) ρ := law_of fun ns hl => by
  refine def_wp rfl ?_
  unfold b_law
  simp -implicitDefEqProofs only [↓bind_U, wq0, wq1, wq2, wq3, wq4, wq5, wq6, wq7, wq8, wq9, wq10, wq11, wq12, wq13, sSeq_, Option.map_some, List.all_cons, List.all_nil, Bool.and_true, List.map_cons, List.map_nil, List.length_cons, List.length_nil, List.length_append, List.set_cons_zero, List.set_cons_succ, List.nil_append, List.cons_append, List.getElem?_cons, decide_eq_true_eq, if_true, true_and, and_true, not_true, not_false, Bool.not_true, Bool.not_false, reduceIte, Nat.reduceAdd, Nat.reduceSub, Int.reduceAdd, Int.reduceLT, Int.reduceLE, Nat.reduceLeDiff, Nat.zero_add, Nat.reduceLT, Int.reduceSub, Int.reduceMul, Int.reducePow, Int.reduceNeg, Int.reduceToNat, Nat.reduceMul, Nat.reduceEqDiff, Int.reduceMod, Int.reduceDiv, decide_true, decide_false, ite_true, ite_false, Int.reduceEq, Nat.reduceBEq, Bool.false_eq_true, false_and, and_false, Int.toNat_natCast, Nat.succ_ne_zero, Nat.one_ne_zero, PyData.int.injEq, if_false, reduceCtorEq, Bool.not_eq_true', decide_eq_false_iff_not, ne_eq, true_or, or_true, Option.bind_some]
  refine ⟨⟨by split <;> split <;> omega, by split <;> split <;> omega⟩, ?_⟩
  refine forL_ints (fun _ ρ => ∃ s1 s2 s3 s4 s5 s6 s7 s8 s9 s10, Fr s1 ∧ settable s2 = true ∧ Fr s3 ∧ Fr s4 ∧ Fr s5 ∧ Fr s6 ∧ Fr s7 ∧ Fr s8 ∧ Fr s9 ∧ settable s10 = true ∧ ρ = [.scr ns, s1, s2, s3, s4, s5, s6, s7, s8, s9, s10, .non])
    ⟨_, _, _, _, _, _, _, _, _, _, .non, rfl, .non, .non, .non, .non, .non, .non, .non, rfl, rfl⟩ ?_ ?_
  · rintro i _ hi ⟨s1, s2, s3, s4, s5, s6, s7, s8, s9, s10, h1, h2, h3, h4, h5, h6, h7, h8, h9, h10, rfl⟩
    have hi2 : i < 64 := by
      refine Nat.lt_of_lt_of_le hi ?_
      split <;> split <;> omega
    simp -implicitDefEqProofs only [↓bind_U, wq0, wq1, wq2, wq3, wq4, wq5, wq6, wq7, wq8, wq9, wq10, wq11, wq12, wq13, sSeq_, Option.map_some, List.all_cons, List.all_nil, Bool.and_true, List.map_cons, List.map_nil, List.length_cons, List.length_nil, List.length_append, List.set_cons_zero, List.set_cons_succ, List.nil_append, List.cons_append, List.getElem?_cons, decide_eq_true_eq, if_true, true_and, and_true, not_true, not_false, Bool.not_true, Bool.not_false, reduceIte, Nat.reduceAdd, Nat.reduceSub, Int.reduceAdd, Int.reduceLT, Int.reduceLE, Nat.reduceLeDiff, Nat.zero_add, Nat.reduceLT, Int.reduceSub, Int.reduceMul, Int.reducePow, Int.reduceNeg, Int.reduceToNat, Nat.reduceMul, Nat.reduceEqDiff, Int.reduceMod, Int.reduceDiv, decide_true, decide_false, ite_true, ite_false, Int.reduceEq, Nat.reduceBEq, Bool.false_eq_true, false_and, and_false, Int.toNat_natCast, Nat.succ_ne_zero, Nat.one_ne_zero, PyData.int.injEq, if_false, reduceCtorEq, Bool.not_eq_true', decide_eq_false_iff_not, ne_eq, true_or, or_true, Option.bind_some, h1.st, h2]
    refine stream_wp (by omega) (by omega) hl fun d hd => ?_
    simp -implicitDefEqProofs only [↓bind_U, wq0, wq1, wq2, wq3, wq4, wq5, wq6, wq7, wq8, wq9, wq10, wq11, wq12, wq13, sSeq_, Option.map_some, List.all_cons, List.all_nil, Bool.and_true, List.map_cons, List.map_nil, List.length_cons, List.length_nil, List.length_append, List.set_cons_zero, List.set_cons_succ, List.nil_append, List.cons_append, List.getElem?_cons, decide_eq_true_eq, if_true, true_and, and_true, not_true, not_false, Bool.not_true, Bool.not_false, reduceIte, Nat.reduceAdd, Nat.reduceSub, Int.reduceAdd, Int.reduceLT, Int.reduceLE, Nat.reduceLeDiff, Nat.zero_add, Nat.reduceLT, Int.reduceSub, Int.reduceMul, Int.reducePow, Int.reduceNeg, Int.reduceToNat, Nat.reduceMul, Nat.reduceEqDiff, Int.reduceMod, Int.reduceDiv, decide_true, decide_false, ite_true, ite_false, Int.reduceEq, Nat.reduceBEq, Bool.false_eq_true, false_and, and_false, Int.toNat_natCast, Nat.succ_ne_zero, Nat.one_ne_zero, PyData.int.injEq, if_false, reduceCtorEq, Bool.not_eq_true', decide_eq_false_iff_not, ne_eq, true_or, or_true, Option.bind_some, h2]
    refine forL_ints (fun t ρ => ∃ d s3 s4 s5 s6 s7 s8 s9 s10, Sm d ∧ Fr s3 ∧ Fr s4 ∧ Fr s5 ∧ Fr s6 ∧ Fr s7 ∧ Fr s8 ∧ Fr s9 ∧ settable s10 = true ∧ ρ = [.scr ns, .dat (.int (0 + (i : Int))) .frz, .dat d .own, s3, s4, s5, s6, s7, s8, s9, s10, .non])
      ⟨_, _, _, _, _, _, _, _, _, hd, h3, h4, h5, h6, h7, h8, h9, h10, rfl⟩ ?_ ?_
    · rintro t _ ht ⟨d, s3, s4, s5, s6, s7, s8, s9, s10, hd, h3, h4, h5, h6, h7, h8, h9, h10, rfl⟩
      simp -implicitDefEqProofs only [↓bind_U, wq0, wq1, wq2, wq3, wq4, wq5, wq6, wq7, wq8, wq9, wq10, wq11, wq12, wq13, sSeq_, Option.map_some, List.all_cons, List.all_nil, Bool.and_true, List.map_cons, List.map_nil, List.length_cons, List.length_nil, List.length_append, List.set_cons_zero, List.set_cons_succ, List.nil_append, List.cons_append, List.getElem?_cons, decide_eq_true_eq, if_true, true_and, and_true, not_true, not_false, Bool.not_true, Bool.not_false, reduceIte, Nat.reduceAdd, Nat.reduceSub, Int.reduceAdd, Int.reduceLT, Int.reduceLE, Nat.reduceLeDiff, Nat.zero_add, Nat.reduceLT, Int.reduceSub, Int.reduceMul, Int.reducePow, Int.reduceNeg, Int.reduceToNat, Nat.reduceMul, Nat.reduceEqDiff, Int.reduceMod, Int.reduceDiv, decide_true, decide_false, ite_true, ite_false, Int.reduceEq, Nat.reduceBEq, Bool.false_eq_true, false_and, and_false, Int.toNat_natCast, Nat.succ_ne_zero, Nat.one_ne_zero, PyData.int.injEq, if_false, reduceCtorEq, Bool.not_eq_true', decide_eq_false_iff_not, ne_eq, true_or, or_true, Option.bind_some, h3.st]
      refine draw_wp (by decide) (by decide) hd fun r1 d1 r10 r11 hd1 => ?_
      simp -implicitDefEqProofs only [↓bind_U, wq0, wq1, wq2, wq3, wq4, wq5, wq6, wq7, wq8, wq9, wq10, wq11, wq12, wq13, sSeq_, Option.map_some, List.all_cons, List.all_nil, Bool.and_true, List.map_cons, List.map_nil, List.length_cons, List.length_nil, List.length_append, List.set_cons_zero, List.set_cons_succ, List.nil_append, List.cons_append, List.getElem?_cons, decide_eq_true_eq, if_true, true_and, and_true, not_true, not_false, Bool.not_true, Bool.not_false, reduceIte, Nat.reduceAdd, Nat.reduceSub, Int.reduceAdd, Int.reduceLT, Int.reduceLE, Nat.reduceLeDiff, Nat.zero_add, Nat.reduceLT, Int.reduceSub, Int.reduceMul, Int.reducePow, Int.reduceNeg, Int.reduceToNat, Nat.reduceMul, Nat.reduceEqDiff, Int.reduceMod, Int.reduceDiv, decide_true, decide_false, ite_true, ite_false, Int.reduceEq, Nat.reduceBEq, Bool.false_eq_true, false_and, and_false, Int.toNat_natCast, Nat.succ_ne_zero, Nat.one_ne_zero, PyData.int.injEq, if_false, reduceCtorEq, Bool.not_eq_true', decide_eq_false_iff_not, ne_eq, true_or, or_true, Option.bind_some]
      refine draw_wp (by decide) (by decide) hd1 fun r2 d2 r20 r21 hd2 => ?_
      simp -implicitDefEqProofs only [↓bind_U, wq0, wq1, wq2, wq3, wq4, wq5, wq6, wq7, wq8, wq9, wq10, wq11, wq12, wq13, sSeq_, Option.map_some, List.all_cons, List.all_nil, Bool.and_true, List.map_cons, List.map_nil, List.length_cons, List.length_nil, List.length_append, List.set_cons_zero, List.set_cons_succ, List.nil_append, List.cons_append, List.getElem?_cons, decide_eq_true_eq, if_true, true_and, and_true, not_true, not_false, Bool.not_true, Bool.not_false, reduceIte, Nat.reduceAdd, Nat.reduceSub, Int.reduceAdd, Int.reduceLT, Int.reduceLE, Nat.reduceLeDiff, Nat.zero_add, Nat.reduceLT, Int.reduceSub, Int.reduceMul, Int.reducePow, Int.reduceNeg, Int.reduceToNat, Nat.reduceMul, Nat.reduceEqDiff, Int.reduceMod, Int.reduceDiv, decide_true, decide_false, ite_true, ite_false, Int.reduceEq, Nat.reduceBEq, Bool.false_eq_true, false_and, and_false, Int.toNat_natCast, Nat.succ_ne_zero, Nat.one_ne_zero, PyData.int.injEq, if_false, reduceCtorEq, Bool.not_eq_true', decide_eq_false_iff_not, ne_eq, true_or, or_true, Option.bind_some]
      refine pick_wp hd2 (by simp) (by simp) (.inl rfl) fun x d3 hx hd3 => ?_
      obtain ⟨n, rfl, n2, n60⟩ : ∃ n : Nat, x = .int n ∧ 2 ≤ n ∧ n ≤ 60 := by
        simp only [List.mem_cons, List.not_mem_nil, or_false] at hx
        rcases hx with rfl | rfl | rfl
        · exact ⟨(2 + r1).toNat, by rw [Int.toNat_of_nonneg (by omega)], by omega, by omega⟩
        · exact ⟨(2 + r2).toNat, by rw [Int.toNat_of_nonneg (by omega)], by omega, by omega⟩
        · exact ⟨60, rfl, by decide, by decide⟩
      have okn : okRg 0 (n : Int) = true := by unfold okRg rlim lim; exact decide_eq_true ⟨by omega, by omega, by omega, by omega, by omega⟩
      simp -implicitDefEqProofs only [↓bind_U, wq0, wq1, wq2, wq3, wq4, wq5, wq6, wq7, wq8, wq9, wq10, wq11, wq12, wq13, sSeq_, Option.map_some, List.all_cons, List.all_nil, Bool.and_true, List.map_cons, List.map_nil, List.length_cons, List.length_nil, List.length_append, List.set_cons_zero, List.set_cons_succ, List.nil_append, List.cons_append, List.getElem?_cons, decide_eq_true_eq, if_true, true_and, and_true, not_true, not_false, Bool.not_true, Bool.not_false, reduceIte, Nat.reduceAdd, Nat.reduceSub, Int.reduceAdd, Int.reduceLT, Int.reduceLE, Nat.reduceLeDiff, Nat.zero_add, Nat.reduceLT, Int.reduceSub, Int.reduceMul, Int.reducePow, Int.reduceNeg, Int.reduceToNat, Nat.reduceMul, Nat.reduceEqDiff, Int.reduceMod, Int.reduceDiv, decide_true, decide_false, ite_true, ite_false, Int.reduceEq, Nat.reduceBEq, Bool.false_eq_true, false_and, and_false, Int.toNat_natCast, Nat.succ_ne_zero, Nat.one_ne_zero, PyData.int.injEq, if_false, reduceCtorEq, Bool.not_eq_true', decide_eq_false_iff_not, ne_eq, true_or, or_true, Option.bind_some, h4.st, h5.st]
      refine draw_wp (by omega) (by omega) hd3 fun r3 d4 r30 r31 hd4 => ?_
      simp -implicitDefEqProofs only [↓bind_U, wq0, wq1, wq2, wq3, wq4, wq5, wq6, wq7, wq8, wq9, wq10, wq11, wq12, wq13, sSeq_, Option.map_some, List.all_cons, List.all_nil, Bool.and_true, List.map_cons, List.map_nil, List.length_cons, List.length_nil, List.length_append, List.set_cons_zero, List.set_cons_succ, List.nil_append, List.cons_append, List.getElem?_cons, decide_eq_true_eq, if_true, true_and, and_true, not_true, not_false, Bool.not_true, Bool.not_false, reduceIte, Nat.reduceAdd, Nat.reduceSub, Int.reduceAdd, Int.reduceLT, Int.reduceLE, Nat.reduceLeDiff, Nat.zero_add, Nat.reduceLT, Int.reduceSub, Int.reduceMul, Int.reducePow, Int.reduceNeg, Int.reduceToNat, Nat.reduceMul, Nat.reduceEqDiff, Int.reduceMod, Int.reduceDiv, decide_true, decide_false, ite_true, ite_false, Int.reduceEq, Nat.reduceBEq, Bool.false_eq_true, false_and, and_false, Int.toNat_natCast, Nat.succ_ne_zero, Nat.one_ne_zero, PyData.int.injEq, if_false, reduceCtorEq, Bool.not_eq_true', decide_eq_false_iff_not, ne_eq, true_or, or_true, Option.bind_some]
      refine pick_wp hd4 (by simp) (by simp) (.inl rfl) fun x d5 hx hd5 => ?_
      obtain ⟨D, rfl, D1, Dn⟩ : ∃ D : Nat, x = .int D ∧ 1 ≤ D ∧ D ≤ n := by
        simp only [List.mem_cons, List.not_mem_nil, or_false] at hx
        rcases hx with rfl | rfl
        · exact ⟨n, rfl, by omega, by omega⟩
        · exact ⟨(1 + r3).toNat, by rw [Int.toNat_of_nonneg (by omega)], by omega, by omega⟩
      simp -implicitDefEqProofs only [↓bind_U, wq0, wq1, wq2, wq3, wq4, wq5, wq6, wq7, wq8, wq9, wq10, wq11, wq12, wq13, sSeq_, Option.map_some, List.all_cons, List.all_nil, Bool.and_true, List.map_cons, List.map_nil, List.length_cons, List.length_nil, List.length_append, List.set_cons_zero, List.set_cons_succ, List.nil_append, List.cons_append, List.getElem?_cons, decide_eq_true_eq, if_true, true_and, and_true, not_true, not_false, Bool.not_true, Bool.not_false, reduceIte, Nat.reduceAdd, Nat.reduceSub, Int.reduceAdd, Int.reduceLT, Int.reduceLE, Nat.reduceLeDiff, Nat.zero_add, Nat.reduceLT, Int.reduceSub, Int.reduceMul, Int.reducePow, Int.reduceNeg, Int.reduceToNat, Nat.reduceMul, Nat.reduceEqDiff, Int.reduceMod, Int.reduceDiv, decide_true, decide_false, ite_true, ite_false, Int.reduceEq, Nat.reduceBEq, Bool.false_eq_true, false_and, and_false, Int.toNat_natCast, Nat.succ_ne_zero, Nat.one_ne_zero, PyData.int.injEq, if_false, reduceCtorEq, Bool.not_eq_true', decide_eq_false_iff_not, ne_eq, true_or, or_true, Option.bind_some, h5.st, h6.st, okn, intsOf_iL]
      refine shuffled_wp hd5 (l := rO 0 n) (by rw [rO_len]; omega) (.inl rfl) fun F d6 hF hd6 => ?_
      simp -implicitDefEqProofs only [↓bind_U, wq0, wq1, wq2, wq3, wq4, wq5, wq6, wq7, wq8, wq9, wq10, wq11, wq12, wq13, sSeq_, Option.map_some, List.all_cons, List.all_nil, Bool.and_true, List.map_cons, List.map_nil, List.length_cons, List.length_nil, List.length_append, List.set_cons_zero, List.set_cons_succ, List.nil_append, List.cons_append, List.getElem?_cons, decide_eq_true_eq, if_true, true_and, and_true, not_true, not_false, Bool.not_true, Bool.not_false, reduceIte, Nat.reduceAdd, Nat.reduceSub, Int.reduceAdd, Int.reduceLT, Int.reduceLE, Nat.reduceLeDiff, Nat.zero_add, Nat.reduceLT, Int.reduceSub, Int.reduceMul, Int.reducePow, Int.reduceNeg, Int.reduceToNat, Nat.reduceMul, Nat.reduceEqDiff, Int.reduceMod, Int.reduceDiv, decide_true, decide_false, ite_true, ite_false, Int.reduceEq, Nat.reduceBEq, Bool.false_eq_true, false_and, and_false, Int.toNat_natCast, Nat.succ_ne_zero, Nat.one_ne_zero, PyData.int.injEq, if_false, reduceCtorEq, Bool.not_eq_true', decide_eq_false_iff_not, ne_eq, true_or, or_true, Option.bind_some]
      rw [cutD_to (by omega), take_iL, Int.toNat_natCast]
      simp -implicitDefEqProofs only [↓bind_U, wq0, wq1, wq2, wq3, wq4, wq5, wq6, wq7, wq8, wq9, wq10, wq11, wq12, wq13, sSeq_, Option.map_some, List.all_cons, List.all_nil, Bool.and_true, List.map_cons, List.map_nil, List.length_cons, List.length_nil, List.length_append, List.set_cons_zero, List.set_cons_succ, List.nil_append, List.cons_append, List.getElem?_cons, decide_eq_true_eq, if_true, true_and, and_true, not_true, not_false, Bool.not_true, Bool.not_false, reduceIte, Nat.reduceAdd, Nat.reduceSub, Int.reduceAdd, Int.reduceLT, Int.reduceLE, Nat.reduceLeDiff, Nat.zero_add, Nat.reduceLT, Int.reduceSub, Int.reduceMul, Int.reducePow, Int.reduceNeg, Int.reduceToNat, Nat.reduceMul, Nat.reduceEqDiff, Int.reduceMod, Int.reduceDiv, decide_true, decide_false, ite_true, ite_false, Int.reduceEq, Nat.reduceBEq, Bool.false_eq_true, false_and, and_false, Int.toNat_natCast, Nat.succ_ne_zero, Nat.one_ne_zero, PyData.int.injEq, if_false, reduceCtorEq, Bool.not_eq_true', decide_eq_false_iff_not, ne_eq, true_or, or_true, Option.bind_some, h6.st, h7.st, okn, intsOf_iL]
      refine some_wp hd6 (l := rO 0 n) (by rw [rO_len]; omega) (by decide) (by rw [rO_len]; omega) fun F2 z d7 hF2 z0 z1 hd7 => ?_
      rw [rO_len] at z1
      have lF : F.length = n := by rw [hF.length_eq, rO_len]
      have lF2 : F2.length = n := by rw [hF2.length_eq, rO_len]
      obtain ⟨row, hrow⟩ : ∃ row, row = F.take D := ⟨_, rfl⟩
      obtain ⟨up, hup⟩ : ∃ up, up = sortI (F2.take z) := ⟨_, rfl⟩
      have rl : row.length = D := by rw [hrow, List.length_take, lF]; omega
      have ul : up.length = z := by rw [hup, (sortI_perm _).length_eq, List.length_take, lF2]; omega
      have rg : ∀ x ∈ row, 0 ≤ x ∧ x < (n : Int) := fun x hx => by
        rw [hrow] at hx
        have := rO_mem.mp (hF.mem_iff.mp (List.mem_of_mem_take hx)); omega
      rw [← hrow, ← hup]
      simp -implicitDefEqProofs only [↓bind_U, wq0, wq1, wq2, wq3, wq4, wq5, wq6, wq7, wq8, wq9, wq10, wq11, wq12, wq13, sSeq_, Option.map_some, List.all_cons, List.all_nil, Bool.and_true, List.map_cons, List.map_nil, List.length_cons, List.length_nil, List.length_append, List.set_cons_zero, List.set_cons_succ, List.nil_append, List.cons_append, List.getElem?_cons, decide_eq_true_eq, if_true, true_and, and_true, not_true, not_false, Bool.not_true, Bool.not_false, reduceIte, Nat.reduceAdd, Nat.reduceSub, Int.reduceAdd, Int.reduceLT, Int.reduceLE, Nat.reduceLeDiff, Nat.zero_add, Nat.reduceLT, Int.reduceSub, Int.reduceMul, Int.reducePow, Int.reduceNeg, Int.reduceToNat, Nat.reduceMul, Nat.reduceEqDiff, Int.reduceMod, Int.reduceDiv, decide_true, decide_false, ite_true, ite_false, Int.reduceEq, Nat.reduceBEq, Bool.false_eq_true, false_and, and_false, Int.toNat_natCast, Nat.succ_ne_zero, Nat.one_ne_zero, PyData.int.injEq, if_false, reduceCtorEq, Bool.not_eq_true', decide_eq_false_iff_not, ne_eq, true_or, or_true, Option.bind_some, h7.st, h8.st, iL_len]
      refine draw_wp (by omega) (by omega) hd7 fun q d8 q0 q1 hd8 => ?_
      obtain ⟨f, hf⟩ : ∃ f : Nat, 1 + q = f := ⟨(1 + q).toNat, by omega⟩
      simp -implicitDefEqProofs only [↓bind_U, wq0, wq1, wq2, wq3, wq4, wq5, wq6, wq7, wq8, wq9, wq10, wq11, wq12, wq13, sSeq_, Option.map_some, List.all_cons, List.all_nil, Bool.and_true, List.map_cons, List.map_nil, List.length_cons, List.length_nil, List.length_append, List.set_cons_zero, List.set_cons_succ, List.nil_append, List.cons_append, List.getElem?_cons, decide_eq_true_eq, if_true, true_and, and_true, not_true, not_false, Bool.not_true, Bool.not_false, reduceIte, Nat.reduceAdd, Nat.reduceSub, Int.reduceAdd, Int.reduceLT, Int.reduceLE, Nat.reduceLeDiff, Nat.zero_add, Nat.reduceLT, Int.reduceSub, Int.reduceMul, Int.reducePow, Int.reduceNeg, Int.reduceToNat, Nat.reduceMul, Nat.reduceEqDiff, Int.reduceMod, Int.reduceDiv, decide_true, decide_false, ite_true, ite_false, Int.reduceEq, Nat.reduceBEq, Bool.false_eq_true, false_and, and_false, Int.toNat_natCast, Nat.succ_ne_zero, Nat.one_ne_zero, PyData.int.injEq, if_false, reduceCtorEq, Bool.not_eq_true', decide_eq_false_iff_not, ne_eq, true_or, or_true, Option.bind_some, h8.st, hf]
      have bU : ∀ x ∈ up, 0 ≤ x ∧ x < (n : Int) := fun x hx => by
        rw [hup] at hx
        have := rO_mem.mp (hF2.mem_iff.mp (List.mem_of_mem_take ((sortI_perm _).mem_iff.mp hx))); omega
      have une : iL up ≠ [] := fun e => by
        have := congrArg List.length e
        rw [iL_len, ul] at this
        simp at this; omega
      refine lcW_inv (fun q xs ρ => ∃ gs d', xs = iL gs ∧ (∀ g ∈ gs, g ∈ up) ∧ Sm d' ∧ gs.length = q ∧ ρ = [.scr ns, .dat (.int (0 + (i : Int))) .frz, .dat d' .own, .dat (.int (0 + (t : Int))) .frz, .dat (.int n) .frz, .dat (.int D) .frz, .dat (.tuple (iL row)) .frz, .dat (.tuple (iL up)) .frz, .dat (.int f) .frz, s9, s10, .non]) _
        ⟨[], d8, rfl, (by intro g h; cases h), hd8, rfl, rfl⟩ ?_ ?_
      · rintro j e xs _ hj ⟨gs, d', rfl, hg, hd', lg, rfl⟩
        have hlt : j < 4 := by
          have := (List.getElem?_eq_some_iff.mp hj).1
          rwa [intsOf_len] at this
        rw [intsOf_get hlt] at hj
        cases hj
        unfold lcS
        simp -implicitDefEqProofs only [↓bind_U, wq0, wq1, wq2, wq3, wq4, wq5, wq6, wq7, wq8, wq9, wq10, wq11, wq12, wq13, sSeq_, Option.map_some, List.all_cons, List.all_nil, Bool.and_true, List.map_cons, List.map_nil, List.length_cons, List.length_nil, List.length_append, List.set_cons_zero, List.set_cons_succ, List.nil_append, List.cons_append, List.getElem?_cons, decide_eq_true_eq, if_true, true_and, and_true, not_true, not_false, Bool.not_true, Bool.not_false, reduceIte, Nat.reduceAdd, Nat.reduceSub, Int.reduceAdd, Int.reduceLT, Int.reduceLE, Nat.reduceLeDiff, Nat.zero_add, Nat.reduceLT, Int.reduceSub, Int.reduceMul, Int.reducePow, Int.reduceNeg, Int.reduceToNat, Nat.reduceMul, Nat.reduceEqDiff, Int.reduceMod, Int.reduceDiv, decide_true, decide_false, ite_true, ite_false, Int.reduceEq, Nat.reduceBEq, Bool.false_eq_true, false_and, and_false, Int.toNat_natCast, Nat.succ_ne_zero, Nat.one_ne_zero, PyData.int.injEq, if_false, reduceCtorEq, Bool.not_eq_true', decide_eq_false_iff_not, ne_eq, true_or, or_true, Option.bind_some]
        refine pick_wp hd' une (by rw [iL_len, ul]; omega) (.inr rfl) fun x d9 hx hd9 => ?_
        obtain ⟨g, hg2, rfl⟩ := iL_mem hx
        simp -implicitDefEqProofs only [↓bind_U, wq0, wq1, wq2, wq3, wq4, wq5, wq6, wq7, wq8, wq9, wq10, wq11, wq12, wq13, sSeq_, Option.map_some, List.all_cons, List.all_nil, Bool.and_true, List.map_cons, List.map_nil, List.length_cons, List.length_nil, List.length_append, List.set_cons_zero, List.set_cons_succ, List.nil_append, List.cons_append, List.getElem?_cons, decide_eq_true_eq, if_true, true_and, and_true, not_true, not_false, Bool.not_true, Bool.not_false, reduceIte, Nat.reduceAdd, Nat.reduceSub, Int.reduceAdd, Int.reduceLT, Int.reduceLE, Nat.reduceLeDiff, Nat.zero_add, Nat.reduceLT, Int.reduceSub, Int.reduceMul, Int.reducePow, Int.reduceNeg, Int.reduceToNat, Nat.reduceMul, Nat.reduceEqDiff, Int.reduceMod, Int.reduceDiv, decide_true, decide_false, ite_true, ite_false, Int.reduceEq, Nat.reduceBEq, Bool.false_eq_true, false_and, and_false, Int.toNat_natCast, Nat.succ_ne_zero, Nat.one_ne_zero, PyData.int.injEq, if_false, reduceCtorEq, Bool.not_eq_true', decide_eq_false_iff_not, ne_eq, true_or, or_true, Option.bind_some]
        refine ⟨gs ++ [g], d9, by rw [iL_app]; rfl, fun y hy => ?_, hd9, by rw [List.length_append, lg]; rfl, rfl⟩
        rcases List.mem_append.mp hy with hy | hy
        · exact hg y hy
        · rw [List.mem_singleton.mp hy]; exact hg2
      · rintro _ _ ⟨gs, d9, rfl, hg, hd9, lg, rfl⟩
        have e0 : (iL up)[0]? = some (.int (up.getD 0 0)) := getD_iL (by omega)
        have e1 : atI (iL up) 0 = some (.int (up.getD 0 0)) := atI_get (by decide) e0
        have e2 : atI (iL up) (-1) = some (.int (up.getD (up.length - 1) 0)) := atI_last rfl (by rw [iL_len]; exact getD_iL (by omega)) (by rw [iL_len]; omega)
        have lg' : (iL gs).length ≤ 100 := by rw [iL_len, lg, intsOf_len]; decide
        have sz : (iL gs).length + 2 ≤ 16777216 := by omega
        simp -implicitDefEqProofs only [↓bind_U, wq0, wq1, wq2, wq3, wq4, wq5, wq6, wq7, wq8, wq9, wq10, wq11, wq12, wq13, sSeq_, Option.map_some, List.all_cons, List.all_nil, Bool.and_true, List.map_cons, List.map_nil, List.length_cons, List.length_nil, List.length_append, List.set_cons_zero, List.set_cons_succ, List.nil_append, List.cons_append, List.getElem?_cons, decide_eq_true_eq, if_true, true_and, and_true, not_true, not_false, Bool.not_true, Bool.not_false, reduceIte, Nat.reduceAdd, Nat.reduceSub, Int.reduceAdd, Int.reduceLT, Int.reduceLE, Nat.reduceLeDiff, Nat.zero_add, Nat.reduceLT, Int.reduceSub, Int.reduceMul, Int.reducePow, Int.reduceNeg, Int.reduceToNat, Nat.reduceMul, Nat.reduceEqDiff, Int.reduceMod, Int.reduceDiv, decide_true, decide_false, ite_true, ite_false, Int.reduceEq, Nat.reduceBEq, Bool.false_eq_true, false_and, and_false, Int.toNat_natCast, Nat.succ_ne_zero, Nat.one_ne_zero, PyData.int.injEq, if_false, reduceCtorEq, Bool.not_eq_true', decide_eq_false_iff_not, ne_eq, true_or, or_true, Option.bind_some, e1, e2, sz]
        refine ⟨by rw [iL_len] at lg'; omega, ?_⟩
        have ea : iL gs ++ [PyData.int (up.getD 0 0), .int (up.getD (up.length - 1) 0)] = iL (gs ++ [up.getD 0 0, up.getD (up.length - 1) 0]) := by rw [iL_app]; rfl
        rw [ea]
        refine forL_inv (fun _ ρ => ∃ s9 s10, Fr s9 ∧ settable s10 = true ∧ ρ = [.scr ns, .dat (.int (0 + (i : Int))) .frz, .dat d9 .own, .dat (.int (0 + (t : Int))) .frz, .dat (.int n) .frz, .dat (.int D) .frz, .dat (.tuple (iL row)) .frz, .dat (.tuple (iL up)) .frz, .dat (.int f) .frz, s9, s10, .non]) _ ⟨s9, s10, h9, h10, rfl⟩ ?_ ?_
        · rintro j e _ hj ⟨s9, s10, h9, h10, rfl⟩
          obtain ⟨g, hg2, rfl⟩ := iL_mem (List.mem_of_getElem? hj)
          have rp : ∀ {d : PyData}, RpD d → d.showable = true ∧ d.hasDict = false ∧ d.depth ≤ 64 ∧ shB d ≤ 16777216 ∧ SeqAt.shaped (.str d.shown) = true := fun h => ⟨h.s, h.n, h.p, h.z, h.t⟩
          simp -implicitDefEqProofs only [↓bind_U, wq0, wq1, wq2, wq3, wq4, wq5, wq6, wq7, wq8, wq9, wq10, wq11, wq12, wq13, sSeq_, Option.map_some, List.all_cons, List.all_nil, Bool.and_true, List.map_cons, List.map_nil, List.length_cons, List.length_nil, List.length_append, List.set_cons_zero, List.set_cons_succ, List.nil_append, List.cons_append, List.getElem?_cons, decide_eq_true_eq, if_true, true_and, and_true, not_true, not_false, Bool.not_true, Bool.not_false, reduceIte, Nat.reduceAdd, Nat.reduceSub, Int.reduceAdd, Int.reduceLT, Int.reduceLE, Nat.reduceLeDiff, Nat.zero_add, Nat.reduceLT, Int.reduceSub, Int.reduceMul, Int.reducePow, Int.reduceNeg, Int.reduceToNat, Nat.reduceMul, Nat.reduceEqDiff, Int.reduceMod, Int.reduceDiv, decide_true, decide_false, ite_true, ite_false, Int.reduceEq, Nat.reduceBEq, Bool.false_eq_true, false_and, and_false, Int.toNat_natCast, Nat.succ_ne_zero, Nat.one_ne_zero, PyData.int.injEq, if_false, reduceCtorEq, Bool.not_eq_true', decide_eq_false_iff_not, ne_eq, true_or, or_true, Option.bind_some, h9.st, h10]
          refine law_next_wp (by omega) (fun hn => ?_) fun hn => ?_
          · obtain ⟨a1, a2, a3, a4, a5⟩ := rp (rp_short n60 rg (by omega))
            simp -implicitDefEqProofs only [↓bind_U, wq0, wq1, wq2, wq3, wq4, wq5, wq6, wq7, wq8, wq9, wq10, wq11, wq12, wq13, sSeq_, Option.map_some, List.all_cons, List.all_nil, Bool.and_true, List.map_cons, List.map_nil, List.length_cons, List.length_nil, List.length_append, List.set_cons_zero, List.set_cons_succ, List.nil_append, List.cons_append, List.getElem?_cons, decide_eq_true_eq, if_true, true_and, and_true, not_true, not_false, Bool.not_true, Bool.not_false, reduceIte, Nat.reduceAdd, Nat.reduceSub, Int.reduceAdd, Int.reduceLT, Int.reduceLE, Nat.reduceLeDiff, Nat.zero_add, Nat.reduceLT, Int.reduceSub, Int.reduceMul, Int.reducePow, Int.reduceNeg, Int.reduceToNat, Nat.reduceMul, Nat.reduceEqDiff, Int.reduceMod, Int.reduceDiv, decide_true, decide_false, ite_true, ite_false, Int.reduceEq, Nat.reduceBEq, Bool.false_eq_true, false_and, and_false, Int.toNat_natCast, Nat.succ_ne_zero, Nat.one_ne_zero, PyData.int.injEq, if_false, reduceCtorEq, Bool.not_eq_true', decide_eq_false_iff_not, ne_eq, true_or, or_true, Option.bind_some, h10]
            refine successor_wx (by omega) (fun _ => ?_) fun h => absurd hn (by omega)
            simp -implicitDefEqProofs only [↓bind_U, wq0, wq1, wq2, wq3, wq4, wq5, wq6, wq7, wq8, wq9, wq10, wq11, wq12, wq13, sSeq_, Option.map_some, List.all_cons, List.all_nil, Bool.and_true, List.map_cons, List.map_nil, List.length_cons, List.length_nil, List.length_append, List.set_cons_zero, List.set_cons_succ, List.nil_append, List.cons_append, List.getElem?_cons, decide_eq_true_eq, if_true, true_and, and_true, not_true, not_false, Bool.not_true, Bool.not_false, reduceIte, Nat.reduceAdd, Nat.reduceSub, Int.reduceAdd, Int.reduceLT, Int.reduceLE, Nat.reduceLeDiff, Nat.zero_add, Nat.reduceLT, Int.reduceSub, Int.reduceMul, Int.reducePow, Int.reduceNeg, Int.reduceToNat, Nat.reduceMul, Nat.reduceEqDiff, Int.reduceMod, Int.reduceDiv, decide_true, decide_false, ite_true, ite_false, Int.reduceEq, Nat.reduceBEq, Bool.false_eq_true, false_and, and_false, Int.toNat_natCast, Nat.succ_ne_zero, Nat.one_ne_zero, PyData.int.injEq, if_false, reduceCtorEq, Bool.not_eq_true', decide_eq_false_iff_not, ne_eq, true_or, or_true, Option.bind_some]
            refine law_short_exc ?_
            simp -implicitDefEqProofs only [↓bind_U, wq0, wq1, wq2, wq3, wq4, wq5, wq6, wq7, wq8, wq9, wq10, wq11, wq12, wq13, sSeq_, Option.map_some, List.all_cons, List.all_nil, Bool.and_true, List.map_cons, List.map_nil, List.length_cons, List.length_nil, List.length_append, List.set_cons_zero, List.set_cons_succ, List.nil_append, List.cons_append, List.getElem?_cons, decide_eq_true_eq, if_true, true_and, and_true, not_true, not_false, Bool.not_true, Bool.not_false, reduceIte, Nat.reduceAdd, Nat.reduceSub, Int.reduceAdd, Int.reduceLT, Int.reduceLE, Nat.reduceLeDiff, Nat.zero_add, Nat.reduceLT, Int.reduceSub, Int.reduceMul, Int.reducePow, Int.reduceNeg, Int.reduceToNat, Nat.reduceMul, Nat.reduceEqDiff, Int.reduceMod, Int.reduceDiv, decide_true, decide_false, ite_true, ite_false, Int.reduceEq, Nat.reduceBEq, Bool.false_eq_true, false_and, and_false, Int.toNat_natCast, Nat.succ_ne_zero, Nat.one_ne_zero, PyData.int.injEq, if_false, reduceCtorEq, Bool.not_eq_true', decide_eq_false_iff_not, ne_eq, true_or, or_true, Option.bind_some, a1, a2, a3, a4, a5, eqv_ss]
            exact ⟨_, _, .frz, rfl, rfl⟩
          · obtain ⟨a1, a2, a3, a4, a5⟩ := rp (rp_ret (f := f) (l := up) (g := g) n60 rg hn)
            simp -implicitDefEqProofs only [↓bind_U, wq0, wq1, wq2, wq3, wq4, wq5, wq6, wq7, wq8, wq9, wq10, wq11, wq12, wq13, sSeq_, Option.map_some, List.all_cons, List.all_nil, Bool.and_true, List.map_cons, List.map_nil, List.length_cons, List.length_nil, List.length_append, List.set_cons_zero, List.set_cons_succ, List.nil_append, List.cons_append, List.getElem?_cons, decide_eq_true_eq, if_true, true_and, and_true, not_true, not_false, Bool.not_true, Bool.not_false, reduceIte, Nat.reduceAdd, Nat.reduceSub, Int.reduceAdd, Int.reduceLT, Int.reduceLE, Nat.reduceLeDiff, Nat.zero_add, Nat.reduceLT, Int.reduceSub, Int.reduceMul, Int.reducePow, Int.reduceNeg, Int.reduceToNat, Nat.reduceMul, Nat.reduceEqDiff, Int.reduceMod, Int.reduceDiv, decide_true, decide_false, ite_true, ite_false, Int.reduceEq, Nat.reduceBEq, Bool.false_eq_true, false_and, and_false, Int.toNat_natCast, Nat.succ_ne_zero, Nat.one_ne_zero, PyData.int.injEq, if_false, reduceCtorEq, Bool.not_eq_true', decide_eq_false_iff_not, ne_eq, true_or, or_true, Option.bind_some, h10]
            refine successor_wx (by omega) (fun h => absurd hn (by omega)) fun _ => ?_
            simp -implicitDefEqProofs only [↓bind_U, wq0, wq1, wq2, wq3, wq4, wq5, wq6, wq7, wq8, wq9, wq10, wq11, wq12, wq13, sSeq_, Option.map_some, List.all_cons, List.all_nil, Bool.and_true, List.map_cons, List.map_nil, List.length_cons, List.length_nil, List.length_append, List.set_cons_zero, List.set_cons_succ, List.nil_append, List.cons_append, List.getElem?_cons, decide_eq_true_eq, if_true, true_and, and_true, not_true, not_false, Bool.not_true, Bool.not_false, reduceIte, Nat.reduceAdd, Nat.reduceSub, Int.reduceAdd, Int.reduceLT, Int.reduceLE, Nat.reduceLeDiff, Nat.zero_add, Nat.reduceLT, Int.reduceSub, Int.reduceMul, Int.reducePow, Int.reduceNeg, Int.reduceToNat, Nat.reduceMul, Nat.reduceEqDiff, Int.reduceMod, Int.reduceDiv, decide_true, decide_false, ite_true, ite_false, Int.reduceEq, Nat.reduceBEq, Bool.false_eq_true, false_and, and_false, Int.toNat_natCast, Nat.succ_ne_zero, Nat.one_ne_zero, PyData.int.injEq, if_false, reduceCtorEq, Bool.not_eq_true', decide_eq_false_iff_not, ne_eq, true_or, or_true, Option.bind_some]
            refine law_short_ok ?_
            simp -implicitDefEqProofs only [↓bind_U, wq0, wq1, wq2, wq3, wq4, wq5, wq6, wq7, wq8, wq9, wq10, wq11, wq12, wq13, sSeq_, Option.map_some, List.all_cons, List.all_nil, Bool.and_true, List.map_cons, List.map_nil, List.length_cons, List.length_nil, List.length_append, List.set_cons_zero, List.set_cons_succ, List.nil_append, List.cons_append, List.getElem?_cons, decide_eq_true_eq, if_true, true_and, and_true, not_true, not_false, Bool.not_true, Bool.not_false, reduceIte, Nat.reduceAdd, Nat.reduceSub, Int.reduceAdd, Int.reduceLT, Int.reduceLE, Nat.reduceLeDiff, Nat.zero_add, Nat.reduceLT, Int.reduceSub, Int.reduceMul, Int.reducePow, Int.reduceNeg, Int.reduceToNat, Nat.reduceMul, Nat.reduceEqDiff, Int.reduceMod, Int.reduceDiv, decide_true, decide_false, ite_true, ite_false, Int.reduceEq, Nat.reduceBEq, Bool.false_eq_true, false_and, and_false, Int.toNat_natCast, Nat.succ_ne_zero, Nat.one_ne_zero, PyData.int.injEq, if_false, reduceCtorEq, Bool.not_eq_true', decide_eq_false_iff_not, ne_eq, true_or, or_true, Option.bind_some, a1, a2, a3, a4, a5, eqv_ss]
            exact ⟨_, _, .frz, rfl, rfl⟩
        · rintro _ ⟨s9, s10, h9, h10, rfl⟩
          exact ⟨_, _, _, _, _, _, _, _, _, hd9, .frz, .frz, .frz, .frz, .frz, .frz, h9, h10, rfl⟩
    · rintro _ ⟨d, s3, s4, s5, s6, s7, s8, s9, s10, hd, h3, h4, h5, h6, h7, h8, h9, h10, rfl⟩
      exact ⟨_, _, _, _, _, _, _, _, _, _, .frz, rfl, h3, h4, h5, h6, h7, h8, h9, h10, rfl⟩
  · rintro _ ⟨s1, s2, s3, s4, s5, s6, s7, s8, s9, s10, h1, h2, h3, h4, h5, h6, h7, h8, h9, h10, rfl⟩
    simp -implicitDefEqProofs only [↓bind_U, wq0, wq1, wq2, wq3, wq4, wq5, wq6, wq7, wq8, wq9, wq10, wq11, wq12, wq13, sSeq_, Option.map_some, List.all_cons, List.all_nil, Bool.and_true, List.map_cons, List.map_nil, List.length_cons, List.length_nil, List.length_append, List.set_cons_zero, List.set_cons_succ, List.nil_append, List.cons_append, List.getElem?_cons, decide_eq_true_eq, if_true, true_and, and_true, not_true, not_false, Bool.not_true, Bool.not_false, reduceIte, Nat.reduceAdd, Nat.reduceSub, Int.reduceAdd, Int.reduceLT, Int.reduceLE, Nat.reduceLeDiff, Nat.zero_add, Nat.reduceLT, Int.reduceSub, Int.reduceMul, Int.reducePow, Int.reduceNeg, Int.reduceToNat, Nat.reduceMul, Nat.reduceEqDiff, Int.reduceMod, Int.reduceDiv, decide_true, decide_false, ite_true, ite_false, Int.reduceEq, Nat.reduceBEq, Bool.false_eq_true, false_and, and_false, Int.toNat_natCast, Nat.succ_ne_zero, Nat.one_ne_zero, PyData.int.injEq, if_false, reduceCtorEq, Bool.not_eq_true', decide_eq_false_iff_not, ne_eq, true_or, or_true, Option.bind_some]

/-! ### the text -/
def topS (i : Nat) : Stmt := PySem.Challenge.pw_evenfailover_k30_successors_of_one_list.main.body.getD i (.Pass ⟨0, 0, 0, 0⟩)
abbrev s_law_stream : Stmt := topS 7
theorem sc_law_stream : FnScope ["_law_script", "_law_k", "_law_cell", "_law_own"] ["_law_script", "_law_k"] (defScope s_law_stream) := ⟨rfl, rfl, rfl, by decide +kernel, rfl, by decide +kernel, by decide +kernel⟩
abbrev s_law_draw : Stmt := topS 8
theorem sc_law_draw : FnScope ["_law_stream_here", "_law_below", "_law_digit"] ["_law_stream_here", "_law_below"] (defScope s_law_draw) := ⟨rfl, rfl, rfl, by decide +kernel, rfl, by decide +kernel, by decide +kernel⟩
abbrev s_law_pick : Stmt := topS 9
theorem sc_law_pick : FnScope ["_law_stream_here", "_law_items"] ["_law_stream_here", "_law_items"] (defScope s_law_pick) := ⟨rfl, rfl, rfl, by decide +kernel, rfl, by decide +kernel, by decide +kernel⟩
abbrev s_law_shuffled : Stmt := topS 10
theorem sc_law_shuffled : FnScope ["_law_stream_here", "_law_items", "_law_left", "_law_found"] ["_law_stream_here", "_law_items"] (defScope s_law_shuffled) := ⟨rfl, rfl, rfl, by decide +kernel, rfl, by decide +kernel, by decide +kernel⟩
abbrev s_law_some : Stmt := topS 11
theorem sc_law_some : FnScope ["_law_stream_here", "_law_items", "_law_least", "_law_size"] ["_law_stream_here", "_law_items", "_law_least"] (defScope s_law_some) := ⟨rfl, rfl, rfl, by decide +kernel, rfl, by decide +kernel, by decide +kernel⟩
abbrev s_law_alive : Stmt := topS 12
theorem sc_law_alive : FnScope ["_law_order", "_law_up", "_law_one"] ["_law_order", "_law_up"] (defScope s_law_alive) := ⟨rfl, rfl, rfl, by decide +kernel, rfl, by decide +kernel, by decide +kernel⟩
abbrev s_law_next : Stmt := topS 14
theorem sc_law_next : FnScope ["_law_order", "_law_up", "_law_most", "_law_gone", "_law_found"] ["_law_order", "_law_up", "_law_most", "_law_gone"] (defScope s_law_next) := ⟨rfl, rfl, rfl, by decide +kernel, rfl, by decide +kernel, by decide +kernel⟩
abbrev s_law_short : Stmt := topS 13
theorem sc_law_short : FnScope ["_law_ask", "_law_caught", "_law_value", "error", "_law_is_own"] ["_law_ask"] (defScope s_law_short) := ⟨rfl, rfl, rfl, by decide +kernel, rfl, by decide +kernel, by decide +kernel⟩
abbrev s_live_in : Stmt := topS 4
theorem sc_live_in : FnScope ["order", "live", "server"] ["order", "live"] (defScope s_live_in) := ⟨rfl, rfl, rfl, by decide +kernel, rfl, by decide +kernel, by decide +kernel⟩
abbrev s_successor : Stmt := topS 5
theorem sc_successor : FnScope ["order", "live", "factor", "failed", "some"] ["order", "live", "factor", "failed"] (defScope s_successor) := ⟨rfl, rfl, rfl, by decide +kernel, rfl, by decide +kernel, by decide +kernel⟩
abbrev s_law : Stmt := topS 15
theorem sc_law : FnScope ["_law_script", "_law_k", "_law_stream_here", "_law_turn", "_law_n", "_law_depth", "_law_order", "_law_up", "_law_most", "_law_gone", "_law_due", "_law_again"] ["_law_script"] (defScope s_law) := ⟨rfl, rfl, rfl, by decide +kernel, rfl, by decide +kernel, by decide +kernel⟩
def fldF (c : String) : String := if c = "TooShort" then "order" else ""
abbrev si_TooShort : Stmt := clsBody (topS 2)
theorem sci_TooShort : FnScope ["self", "order"] ["self", "order"] (defScope si_TooShort) := ⟨rfl, rfl, rfl, by decide +kernel, rfl, by decide +kernel, by decide +kernel⟩
theorem oki_TooShort {P : Program} {w : World} {K : PySem.W.Frag} {mg : Str → Option Value} {base : Heap} {C FE f : Addr} {fd : FuncData} (F : Fun K "__init__" "TooShort.__init__" si_TooShort f fd) (gB : mg "FailoverError" = some (.ref FE)) (hS : PySem.W.specialIn K (.ref FE) "__getattribute__" = some (some (.builtin "type.__getattribute__"))) (hR : PySem.W.readsIn K FE (.type "type") = true)
    (hF : PySem.W.findCls K (.ref FE) (.type "type") "__init__" = some (.val (.builtin "ValueError.__init__"))) : FnOk P w K mg base (L2.CX P w) 1 f fd ["self", "order"] (spInit K C "order") :=
  F.okX sci_TooShort (fun vs H Q E h => by obtain ⟨_, _, rfl, _⟩ := h; rfl) fun cdv A outer s H vs Q E hr h => by
    obtain ⟨a, y, rfl, ea, T, hno, q⟩ := h
    have sc := sci_TooShort
    exact ⟨_, pss_cons (ps_expr (pe_baseinit (by rfl) gB hS hR hF (pa_cons (pv 0) (pa_cons pe_str pa_nil)))) (pss_one (ps_ost (pv 0) (pv 1))), init_read rfl rfl (fun _ _ h => h) ea T hno q⟩
section
variable {P : Program} {w : World} {K : PySem.W.Frag} {mg : Str → Option Value} {base : Heap}
theorem ok_law_stream {f : Addr} {fd : FuncData} (F : Fun K "_law_stream" "_law_stream" s_law_stream f fd) (nd : NoDig base)
    {tbs : List (Addr × Str)}
    {cs : List (String × Addr)}
    {C_FailoverError C_TooShort : Addr}
    (z_len : mg "len" = none)
    (z_abs : mg "abs" = none)
    (z_int : mg "int" = none) :
    FnG P w K mg base (L2.CX P w) 1 f fd ["_law_script", "_law_k"] (spD (gmL K cs fldF tbs) 2 m_law_stream) :=
  ok_defX (N := ["_law_script", "_law_k", "_law_cell", "_law_own"]) (ps := ["_law_script", "_law_k"]) (body := DLaw.b_law_stream) F sc_law_stream fun cdv A outer s H E hr hG => by
  have sc := sc_law_stream
  have hu64 := hr.units
  have hu66 : (A.deeper (envOfC "_law_stream" (defScope s_law_stream) s.heap.objs.size f cdv)).units + 66 < cLine := by have := hr.un; omega
  exact
    (dss_cons (ds_set (i := 2) sc.nd rfl (by first | exact .inl rfl | exact .inr rfl) (de_if (dt_cmp op_lt (op_cmpS _) (de_var (pv 1)) (de_scrLen (pv 0) rfl (by rfl) z_len) (nomark _)) (de_scrIx (pv 0) rfl (de_var (pv 1)) (fun _ _ => rfl)) (de_op op_addX op_addS (de_op op_mulX op_mulS de_int (de_var (pv 1))) (de_scrLen (pv 0) rfl (by rfl) z_len))))
    (dss_cons (ds_set (i := 3) sc.nd rfl (by first | exact .inl rfl | exact .inr rfl) (de_op op_mulX op_mulS (de_op op_mod op_modS (de_B call_abs call_absS (by rfl) z_abs (by decide +kernel) (da_cons (de_var (pv 2)) da_nil)) (de_T (call_intTxt nd) call_intTxtS (by rfl) z_int (by decide +kernel) (da_cons (de_op op_addX op_addS de_str (de_op op_mulStr op_mulStrS de_str de_int)) da_nil))) (de_T call_int1 call_intS (by rfl) z_int (by decide +kernel) (da_cons (de_cmp op_ge (op_cmpS _) (de_B call_abs call_absS (by rfl) z_abs (by decide +kernel) (da_cons (de_var (pv 2)) da_nil)) (de_op op_powW op_powS de_int de_int) (nomark _)) da_nil))))
    (dss_one (ds_ret (de_lst (da_cons (de_var (pv 3)) (da_cons (de_op op_mod op_modS (de_op op_mulX op_mulS (de_op op_addX op_addS (de_op op_addX op_addS (de_op op_mod op_modS (de_var (pv 2)) de_int) (de_op op_mulX op_mulS (de_op op_mulX op_mulS de_int (de_var (pv 1))) (de_var (pv 1)))) de_int) de_int) de_int) da_nil)))))))
theorem ok_law_draw {f : Addr} {fd : FuncData} (F : Fun K "_law_draw" "_law_draw" s_law_draw f fd) {tbs : List (Addr × Str)}
    {cs : List (String × Addr)}
    {C_FailoverError C_TooShort : Addr} :
    FnG P w K mg base (L2.CX P w) 1 f fd ["_law_stream_here", "_law_below"] (spD (gmL K cs fldF tbs) 2 m_law_draw) :=
  ok_defX (N := ["_law_stream_here", "_law_below", "_law_digit"]) (ps := ["_law_stream_here", "_law_below"]) (body := DLaw.b_law_draw) F sc_law_draw fun cdv A outer s H E hr hG => by
  have sc := sc_law_draw
  have hu64 := hr.units
  have hu66 : (A.deeper (envOfC "_law_draw" (defScope s_law_draw) s.heap.objs.size f cdv)).units + 66 < cLine := by have := hr.un; omega
  exact
    (dss_cons (ds_if (dt_cmp op_gt (op_cmpS _) (de_ix ix_seq ix_S (de_var (pv 0)) de_int (fun _ _ => rfl)) de_int (nomark _)) (dss_cons (ds_set (i := 2) sc.nd rfl (by first | exact .inl rfl | exact .inr rfl) (de_op op_mod op_modS (de_ix ix_seq ix_S (de_var (pv 0)) de_int (fun _ _ => rfl)) (de_var (pv 1))))
      (dss_cons (ds_setix (pv 0) (de_op op_fdivW op_fdivS (de_ix ix_seq ix_S (de_var (pv 0)) de_int (fun _ _ => rfl)) (de_var (pv 1))) de_int (ht := pg_sub (pv 0) (DE.pe de_int) set_list))
      (dss_one (ds_ret (de_var (pv 2)))))) dss_nil)
    (dss_cons (ds_setix (pv 0) (de_op op_mod op_modS (de_op op_addX op_addS (de_op op_mulX op_mulS (de_ix ix_seq ix_S (de_var (pv 0)) de_int (fun _ _ => rfl)) de_int) de_int) de_int) de_int (ht := pg_sub (pv 0) (DE.pe de_int) set_list))
    (dss_one (ds_ret (de_op op_mod op_modS (de_op op_fdivW op_fdivS (de_op op_mod op_modS (de_op op_mulX op_mulS (de_op op_fdivW op_fdivS (de_ix ix_seq ix_S (de_var (pv 0)) de_int (fun _ _ => rfl)) de_int) (de_op op_addX op_addS (de_op op_mod op_modS (de_ix ix_seq ix_S (de_var (pv 0)) de_int (fun _ _ => rfl)) de_int) de_int)) de_int) de_int) (de_var (pv 1)))))))
theorem ok_law_pick {f : Addr} {fd : FuncData} (F : Fun K "_law_pick" "_law_pick" s_law_pick f fd) {tbs : List (Addr × Str)}
    {cs : List (String × Addr)}
    {C_FailoverError C_TooShort : Addr}
    {f_law_draw : Addr} {fd_law_draw : FuncData} (G_law_draw : FnG P w K mg base (L2.CX P w) 1 f_law_draw fd_law_draw ["_law_stream_here", "_law_below"] (spD (gmL K cs fldF tbs) 2 m_law_draw)) (b_law_draw : Binds K fd_law_draw ["_law_stream_here", "_law_below"] []) (g_law_draw : mg "_law_draw" = some (.ref f_law_draw)) (k_law_draw : PySem.W.keepIn K (.ref f_law_draw) = true)
    (z_len : mg "len" = none) :
    FnG P w K mg base (L2.CX P w) 2 f fd ["_law_stream_here", "_law_items"] (spD (gmL K cs fldF tbs) 2 m_law_pick) :=
  ok_defX (N := ["_law_stream_here", "_law_items"]) (ps := ["_law_stream_here", "_law_items"]) (body := DLaw.b_law_pick) F sc_law_pick fun cdv A outer s H E hr hG => by
  have sc := sc_law_pick
  have hu64 := hr.units
  have hu66 : (A.deeper (envOfC "_law_pick" (defScope s_law_pick) s.heap.objs.size f cdv)).units + 66 < cLine := by have := hr.un; omega
  exact
    (dss_one (ds_ret (de_ix ix_seq ix_S (de_var (pv 1)) (de_call G_law_draw (hr.mono (by decide)) hG (by rfl) g_law_draw k_law_draw b_law_draw (patX (takes_of rfl rfl rfl rfl)) (da_cons (de_var (pv 0)) (da_cons (de_B call_lenX call_lenS (by rfl) z_len PySem.boot_len (da_cons (de_var (pv 1)) da_nil)) da_nil))) (fun _ _ => rfl))))
theorem ok_law_shuffled {f : Addr} {fd : FuncData} (F : Fun K "_law_shuffled" "_law_shuffled" s_law_shuffled f fd) {tbs : List (Addr × Str)}
    {cs : List (String × Addr)}
    {C_FailoverError C_TooShort : Addr}
    {f_law_draw : Addr} {fd_law_draw : FuncData} (G_law_draw : FnG P w K mg base (L2.CX P w) 1 f_law_draw fd_law_draw ["_law_stream_here", "_law_below"] (spD (gmL K cs fldF tbs) 2 m_law_draw)) (b_law_draw : Binds K fd_law_draw ["_law_stream_here", "_law_below"] []) (g_law_draw : mg "_law_draw" = some (.ref f_law_draw)) (k_law_draw : PySem.W.keepIn K (.ref f_law_draw) = true)
    (z_list : mg "list" = none)
    (z_len : mg "len" = none) :
    FnG P w K mg base (L2.CX P w) 2 f fd ["_law_stream_here", "_law_items"] (spD (gmL K cs fldF tbs) 2 m_law_shuffled) :=
  ok_defX (N := ["_law_stream_here", "_law_items", "_law_left", "_law_found"]) (ps := ["_law_stream_here", "_law_items"]) (body := DLaw.b_law_shuffled) F sc_law_shuffled fun cdv A outer s H E hr hG => by
  have sc := sc_law_shuffled
  have hu64 := hr.units
  have hu66 : (A.deeper (envOfC "_law_shuffled" (defScope s_law_shuffled) s.heap.objs.size f cdv)).units + 66 < cLine := by have := hr.un; omega
  exact
    (dss_cons (ds_par rfl sc.nd (i := 2) (j := 3) rfl rfl (by decide) rfl rfl (do_cons (de_T call_list_of call_listS (by rfl) z_list (by decide +kernel) (da_cons (de_var (pv 1)) da_nil)) (do_cons (de_lst da_nil) do_nil)) (by rfl))
    (dss_cons (ds_while 10000000000000000000000000000000000000000000000000000000000000000000000000000000000000000000000000000 (passes_of rfl) (dt_cmp (op_neD hu64) op_neS (de_var (pv 2)) (de_lst da_nil) (nomark _)) (dss_one (ds_expr (de_mut PySem.F.slot_list_append PySem.F.type_list_append mt_append mut_append (pv 3) (da_cons (de_mut PySem.F.slot_list_pop PySem.F.type_list_pop mt_popAt mut_popAt (pv 2) (da_cons (de_call G_law_draw (hr.mono (by decide)) hG (by rfl) g_law_draw k_law_draw b_law_draw (patX (takes_of rfl rfl rfl rfl)) (da_cons (de_var (pv 0)) (da_cons (de_B call_lenX call_lenS (by rfl) z_len PySem.boot_len (da_cons (de_var (pv 2)) da_nil)) da_nil))) da_nil)) da_nil)))))
    (dss_one (ds_ret (de_var (pv 3))))))
theorem ok_law_some {f : Addr} {fd : FuncData} (F : Fun K "_law_some" "_law_some" s_law_some f fd) {tbs : List (Addr × Str)}
    {cs : List (String × Addr)}
    {C_FailoverError C_TooShort : Addr}
    {f_law_draw : Addr} {fd_law_draw : FuncData} (G_law_draw : FnG P w K mg base (L2.CX P w) 1 f_law_draw fd_law_draw ["_law_stream_here", "_law_below"] (spD (gmL K cs fldF tbs) 2 m_law_draw)) (b_law_draw : Binds K fd_law_draw ["_law_stream_here", "_law_below"] []) (g_law_draw : mg "_law_draw" = some (.ref f_law_draw)) (k_law_draw : PySem.W.keepIn K (.ref f_law_draw) = true)
    {f_law_shuffled : Addr} {fd_law_shuffled : FuncData} (G_law_shuffled : FnG P w K mg base (L2.CX P w) 2 f_law_shuffled fd_law_shuffled ["_law_stream_here", "_law_items"] (spD (gmL K cs fldF tbs) 2 m_law_shuffled)) (b_law_shuffled : Binds K fd_law_shuffled ["_law_stream_here", "_law_items"] []) (g_law_shuffled : mg "_law_shuffled" = some (.ref f_law_shuffled)) (k_law_shuffled : PySem.W.keepIn K (.ref f_law_shuffled) = true)
    (z_len : mg "len" = none)
    (z_tuple : mg "tuple" = none)
    (z_sorted : mg "sorted" = none) :
    FnG P w K mg base (L2.CX P w) 3 f fd ["_law_stream_here", "_law_items", "_law_least"] (spD (gmL K cs fldF tbs) 3 m_law_some) :=
  ok_defX (N := ["_law_stream_here", "_law_items", "_law_least", "_law_size"]) (ps := ["_law_stream_here", "_law_items", "_law_least"]) (body := DLaw.b_law_some) F sc_law_some fun cdv A outer s H E hr hG => by
  have sc := sc_law_some
  have hu64 := hr.units
  have hu66 : (A.deeper (envOfC "_law_some" (defScope s_law_some) s.heap.objs.size f cdv)).units + 66 < cLine := by have := hr.un; omega
  exact
    (dss_cons (ds_set (i := 3) sc.nd rfl (by first | exact .inl rfl | exact .inr rfl) (de_op op_addX op_addS (de_var (pv 2)) (de_call G_law_draw (hr.mono (by decide)) hG (by rfl) g_law_draw k_law_draw b_law_draw (patX (takes_of rfl rfl rfl rfl)) (da_cons (de_var (pv 0)) (da_cons (de_op op_addX op_addS (de_op op_sub op_subS (de_B call_lenX call_lenS (by rfl) z_len PySem.boot_len (da_cons (de_var (pv 1)) da_nil)) (de_var (pv 2))) de_int) da_nil)))))
    (dss_one (ds_ret (de_T call_tupleT' call_tupleS (by rfl) z_tuple (by decide +kernel) (da_cons (de_B (cr_sorted2 rfl hu66) call_sorted2S (by rfl) z_sorted (by decide +kernel) (da_cons (de_slice (de_call G_law_shuffled (hr.mono (by decide)) hG (by rfl) g_law_shuffled k_law_shuffled b_law_shuffled (patX (takes_of rfl rfl rfl rfl)) (da_cons (de_var (pv 0)) (da_cons (de_var (pv 1)) da_nil))) do_none (do_some (de_var (pv 3)))) da_nil)) da_nil)))))
theorem ok_law_alive {f : Addr} {fd : FuncData} (F : Fun K "_law_alive" "_law_alive" s_law_alive f fd) {tbs : List (Addr × Str)}
    {cs : List (String × Addr)}
    {C_FailoverError C_TooShort : Addr} :
    FnG P w K mg base (L2.CX P w) 1 f fd ["_law_order", "_law_up"] (spD (gmL K cs fldF tbs) 2 m_law_alive) :=
  ok_defX (N := ["_law_order", "_law_up", "_law_one"]) (ps := ["_law_order", "_law_up"]) (body := DLaw.b_law_alive) F sc_law_alive fun cdv A outer s H E hr hG => by
  have sc := sc_law_alive
  have hu64 := hr.units
  have hu66 : (A.deeper (envOfC "_law_alive" (defScope s_law_alive) s.heap.objs.size f cdv)).units + 66 < cLine := by have := hr.un; omega
  exact
    (dss_one (ds_ret (de_lc (own := [("_law_one", 2)]) (ws := [2]) rfl sc.nd (di_seq (de_var (pv 0))) (blkOk_by (N := ["_law_order", "_law_up", "_law_one"]) (sc := defScope s_law_alive) (by decide +kernel)) (by decide) (fun _ _ _ _ _ => (dg_name (i := 2) sc.nd rfl (by first | exact .inl rfl | exact .inr rfl))) (fun _ _ _ _ _ => (dts_one (dt_cmp op_in_seq (op_inS false) (de_var (pv 2)) (de_var (pv 1)) (by rfl)))) (fun _ _ _ _ _ => (de_var (pv 2))))))
theorem ok_law_next {f : Addr} {fd : FuncData} (F : Fun K "_law_next" "_law_next" s_law_next f fd) {tbs : List (Addr × Str)}
    {cs : List (String × Addr)}
    {C_FailoverError C_TooShort : Addr}
    {f_law_alive : Addr} {fd_law_alive : FuncData} (G_law_alive : FnG P w K mg base (L2.CX P w) 1 f_law_alive fd_law_alive ["_law_order", "_law_up"] (spD (gmL K cs fldF tbs) 2 m_law_alive)) (b_law_alive : Binds K fd_law_alive ["_law_order", "_law_up"] []) (g_law_alive : mg "_law_alive" = some (.ref f_law_alive)) (k_law_alive : PySem.W.keepIn K (.ref f_law_alive) = true)
    (z_len : mg "len" = none) :
    FnG P w K mg base (L2.CX P w) 2 f fd ["_law_order", "_law_up", "_law_most", "_law_gone"] (spD (gmL K cs fldF tbs) 4 m_law_next) :=
  ok_defX (N := ["_law_order", "_law_up", "_law_most", "_law_gone", "_law_found"]) (ps := ["_law_order", "_law_up", "_law_most", "_law_gone"]) (body := DLaw.b_law_next) F sc_law_next fun cdv A outer s H E hr hG => by
  have sc := sc_law_next
  have hu64 := hr.units
  have hu66 : (A.deeper (envOfC "_law_next" (defScope s_law_next) s.heap.objs.size f cdv)).units + 66 < cLine := by have := hr.un; omega
  exact
    (dss_cons (ds_set (i := 4) sc.nd rfl (by first | exact .inl rfl | exact .inr rfl) (de_call G_law_alive (hr.mono (by decide)) hG (by rfl) g_law_alive k_law_alive b_law_alive (patX (takes_of rfl rfl rfl rfl)) (da_cons (de_var (pv 0)) (da_cons (de_var (pv 1)) da_nil))))
    (dss_cons (ds_if (dt_cmp op_le (op_cmpS _) (de_B call_lenX call_lenS (by rfl) z_len PySem.boot_len (da_cons (de_var (pv 4)) da_nil)) (de_var (pv 2)) (nomark _)) (dss_one (ds_ret (de_tup (da_cons de_str (da_cons (de_var (pv 0)) da_nil))))) dss_nil)
    (dss_one (ds_ret (de_tup (da_cons de_str (da_cons (de_if (dt_cmp op_in_seq (op_inS false) (de_var (pv 3)) (de_slice (de_var (pv 4)) do_none (do_some (de_var (pv 2)))) (by rfl)) (de_ix ix_seq ix_S (de_var (pv 4)) (de_var (pv 2)) (fun _ _ => rfl)) de_non) da_nil)))))))
theorem ok_law_short {f : Addr} {fd : FuncData} (F : Fun K "_law_short" "_law_short" s_law_short f fd) {tbs : List (Addr × Str)}
    {cs : List (String × Addr)}
    {C_FailoverError C_TooShort : Addr}
    (g_FailoverError : mg "FailoverError" = some (.ref C_FailoverError))
    (g_TooShort : mg "TooShort" = some (.ref C_TooShort))
    (xI : AllC cs fun _ C => L2.ExcC K C)
    (q_0 : AllC cs fun c C => PySem.W.kitOne K (.ref C) (.type "ValueError") = some ((fun c : String => ["TooShort"].contains c) c))
    (q_1 : AllC cs fun c C => PySem.W.kitOne K (.ref C) (.ref C_TooShort) = some ((fun c : String => ["TooShort"].contains c) c))
    (xA_order : AllC cs fun c C => (["TooShort"] : List String).contains c = true → ((fldF c : String) : Str) = ("order" : String) ∧ L2.XfC K C ∧ PySem.W.findIn K (.ref C) (("order" : String) : Str) = some none)
    (xT : AllC cs fun _ C => PySem.W.exmOne K (.ref C) (.ref C_FailoverError) = some true)
    (z_isinstance : mg "isinstance" = none)
    (z_ValueError : mg "ValueError" = none) :
    FnTk P w K mg base 5 3 f fd "_law_ask" (gmL K cs fldF tbs) m_law_short :=
  ok_defT (N := ["_law_ask", "_law_caught", "_law_value", "error", "_law_is_own"]) (a := "_law_ask") (body := DLaw.b_law_short) F sc_law_short fun cdv A outer s H E T th hr hG TP => by
  have sc := sc_law_short
  have hu64 := hr.units
  have hu66 : (A.deeper (envOfC "_law_short" (defScope s_law_short) s.heap.objs.size f cdv)).units + 66 < cLine := by have := hr.un; omega
  exact
    (dss_cons (ds_to (de_tup (da_cons de_non (da_cons de_non da_nil))) (dg_tup rfl (dgs_cons (dg_name (i := 1) sc.nd rfl (by first | exact .inl rfl | exact .inr rfl)) (dgs_cons (dg_name (i := 2) sc.nd rfl (by first | exact .inl rfl | exact .inr rfl)) dgs_nil))))
    (dss_cons (ds_try (i := 3) (j := 1) rfl rfl rfl sc.nd rfl rfl rfl rfl (.inl rfl) ⟨by rfl, by decide, .inl g_FailoverError⟩ xT.get rfl (by decide) (by decide) (fun W' pn xe tk => (dss_one (ds_set (i := 2) sc.nd rfl (by first | exact .inl rfl | exact .inr rfl) (de_thk TP rfl (hr.mono (by decide)) hG tk (i := 0) (by rfl) (by first | exact Or.inl rfl | exact Or.inr (Or.inl rfl) | exact Or.inr (Or.inr rfl)))))))
    (dss_cons (ds_if (dt_isN (pv 1)) (dss_one (ds_ret (de_tup (da_cons de_str (da_cons (de_var (pv 2)) da_nil))))) dss_nil)
    (dss_cons (ds_set (i := 4) sc.nd rfl (by first | exact .inl rfl | exact .inr rfl) (de_and (de_errI (cv := .ref C_TooShort) (u := .ref C_TooShort) (isb := (fun c => ["TooShort"].contains c)) (by rfl) z_isinstance (pv 1) (pe_glob (v := .ref C_TooShort) (by rfl) g_TooShort rfl) (fun _ _ _ h => h) (.own _) xI.get q_1.get) (de_one (de_errI (cv := .ty "ValueError") (u := .type "ValueError") (isb := (fun c => ["TooShort"].contains c)) (by rfl) z_isinstance (pv 1) (pe_bltn (v := .ty "ValueError") (by rfl) z_ValueError (by decide +kernel) rfl) (fun _ _ _ h => h) (.ty _) xI.get q_0.get))))
    (dss_one (ds_ret (de_if (dt_val (de_var (pv 4))) (de_tup (da_cons de_str (da_cons (de_errA (f := "order") (cs := ["TooShort"]) (pv 1) xA_order.get) da_nil))) (de_tup (da_cons de_str (da_cons de_non da_nil))))))))))
theorem ok_live_in {f : Addr} {fd : FuncData} (F : Fun K "live_in" "live_in" s_live_in f fd) {tbs : List (Addr × Str)}
    {cs : List (String × Addr)}
    {C_FailoverError C_TooShort : Addr} :
    FnG P w K mg base (L2.CX P w) 1 f fd ["order", "live"] (spD (gmL K cs fldF tbs) 2 m_live_in) :=
  ok_defX (N := ["order", "live", "server"]) (ps := ["order", "live"]) (body := DLaw.b_live_in) F sc_live_in fun cdv A outer s H E hr hG => by
  have sc := sc_live_in
  have hu64 := hr.units
  have hu66 : (A.deeper (envOfC "live_in" (defScope s_live_in) s.heap.objs.size f cdv)).units + 66 < cLine := by have := hr.un; omega
  exact
    (dss_one (ds_ret (de_lc (own := [("server", 2)]) (ws := [2]) rfl sc.nd (di_seq (de_var (pv 0))) (blkOk_by (N := ["order", "live", "server"]) (sc := defScope s_live_in) (by decide +kernel)) (by decide) (fun _ _ _ _ _ => (dg_name (i := 2) sc.nd rfl (by first | exact .inl rfl | exact .inr rfl))) (fun _ _ _ _ _ => (dts_one (dt_cmp op_in_seq (op_inS false) (de_var (pv 2)) (de_var (pv 1)) (by rfl)))) (fun _ _ _ _ _ => (de_var (pv 2))))))
theorem ok_successor {f : Addr} {fd : FuncData} (F : Fun K "successor" "successor" s_successor f fd) {tbs : List (Addr × Str)}
    {cs : List (String × Addr)}
    {C_FailoverError C_TooShort : Addr}
    {fI_TooShort : Addr} {fdI_TooShort : FuncData} (EC_TooShort : ErrC P w K mg base (gmL K cs fldF tbs) "TooShort" "order" C_TooShort fI_TooShort fdI_TooShort)
    {f_live_in : Addr} {fd_live_in : FuncData} (G_live_in : FnG P w K mg base (L2.CX P w) 1 f_live_in fd_live_in ["order", "live"] (spD (gmL K cs fldF tbs) 2 m_live_in)) (b_live_in : Binds K fd_live_in ["order", "live"] []) (g_live_in : mg "live_in" = some (.ref f_live_in)) (k_live_in : PySem.W.keepIn K (.ref f_live_in) = true)
    (z_len : mg "len" = none) :
    FnG P w K mg base (L2.CX P w) 3 f fd ["order", "live", "factor", "failed"] (spD (gmL K cs fldF tbs) 4 m_successor) :=
  ok_defX (N := ["order", "live", "factor", "failed", "some"]) (ps := ["order", "live", "factor", "failed"]) (body := DLaw.b_successor) F sc_successor fun cdv A outer s H E hr hG => by
  have sc := sc_successor
  have hu64 := hr.units
  have hu66 : (A.deeper (envOfC "successor" (defScope s_successor) s.heap.objs.size f cdv)).units + 66 < cLine := by have := hr.un; omega
  exact
    (dss_cons (ds_set (i := 4) sc.nd rfl (by first | exact .inl rfl | exact .inr rfl) (de_call G_live_in (hr.mono (by decide)) hG (by rfl) g_live_in k_live_in b_live_in (patX (takes_of rfl rfl rfl rfl)) (da_cons (de_var (pv 0)) (da_cons (de_var (pv 1)) da_nil))))
    (dss_cons (ds_if (dt_cmp op_le (op_cmpS _) (de_B call_lenX call_lenS (by rfl) z_len PySem.boot_len (da_cons (de_var (pv 4)) da_nil)) (de_var (pv 2)) (nomark _)) (dss_one (ds_raise EC_TooShort (hr.mono (by decide)) rfl (by rfl) (takes_of rfl rfl rfl rfl) (de_var (pv 0)))) dss_nil)
    (dss_one (ds_ret (de_if (dt_cmp op_in_seq (op_inS false) (de_var (pv 3)) (de_slice (de_var (pv 4)) do_none (do_some (de_var (pv 2)))) (by rfl)) (de_ix ix_seq ix_S (de_var (pv 4)) (de_var (pv 2)) (fun _ _ => rfl)) de_non)))))
theorem ok_law {f : Addr} {fd : FuncData} (F : Fun K "law" "law" s_law f fd) {tbs : List (Addr × Str)}
    {cs : List (String × Addr)}
    {C_FailoverError C_TooShort : Addr}
    {f_law_stream : Addr} {fd_law_stream : FuncData} (G_law_stream : FnG P w K mg base (L2.CX P w) 1 f_law_stream fd_law_stream ["_law_script", "_law_k"] (spD (gmL K cs fldF tbs) 2 m_law_stream)) (b_law_stream : Binds K fd_law_stream ["_law_script", "_law_k"] []) (g_law_stream : mg "_law_stream" = some (.ref f_law_stream)) (k_law_stream : PySem.W.keepIn K (.ref f_law_stream) = true)
    {f_law_pick : Addr} {fd_law_pick : FuncData} (G_law_pick : FnG P w K mg base (L2.CX P w) 2 f_law_pick fd_law_pick ["_law_stream_here", "_law_items"] (spD (gmL K cs fldF tbs) 2 m_law_pick)) (b_law_pick : Binds K fd_law_pick ["_law_stream_here", "_law_items"] []) (g_law_pick : mg "_law_pick" = some (.ref f_law_pick)) (k_law_pick : PySem.W.keepIn K (.ref f_law_pick) = true)
    {f_law_draw : Addr} {fd_law_draw : FuncData} (G_law_draw : FnG P w K mg base (L2.CX P w) 1 f_law_draw fd_law_draw ["_law_stream_here", "_law_below"] (spD (gmL K cs fldF tbs) 2 m_law_draw)) (b_law_draw : Binds K fd_law_draw ["_law_stream_here", "_law_below"] []) (g_law_draw : mg "_law_draw" = some (.ref f_law_draw)) (k_law_draw : PySem.W.keepIn K (.ref f_law_draw) = true)
    {f_law_shuffled : Addr} {fd_law_shuffled : FuncData} (G_law_shuffled : FnG P w K mg base (L2.CX P w) 2 f_law_shuffled fd_law_shuffled ["_law_stream_here", "_law_items"] (spD (gmL K cs fldF tbs) 2 m_law_shuffled)) (b_law_shuffled : Binds K fd_law_shuffled ["_law_stream_here", "_law_items"] []) (g_law_shuffled : mg "_law_shuffled" = some (.ref f_law_shuffled)) (k_law_shuffled : PySem.W.keepIn K (.ref f_law_shuffled) = true)
    {f_law_some : Addr} {fd_law_some : FuncData} (G_law_some : FnG P w K mg base (L2.CX P w) 3 f_law_some fd_law_some ["_law_stream_here", "_law_items", "_law_least"] (spD (gmL K cs fldF tbs) 3 m_law_some)) (b_law_some : Binds K fd_law_some ["_law_stream_here", "_law_items", "_law_least"] []) (g_law_some : mg "_law_some" = some (.ref f_law_some)) (k_law_some : PySem.W.keepIn K (.ref f_law_some) = true)
    {f_law_next : Addr} {fd_law_next : FuncData} (G_law_next : FnG P w K mg base (L2.CX P w) 2 f_law_next fd_law_next ["_law_order", "_law_up", "_law_most", "_law_gone"] (spD (gmL K cs fldF tbs) 4 m_law_next)) (b_law_next : Binds K fd_law_next ["_law_order", "_law_up", "_law_most", "_law_gone"] []) (g_law_next : mg "_law_next" = some (.ref f_law_next)) (k_law_next : PySem.W.keepIn K (.ref f_law_next) = true)
    {f_law_short : Addr} {fd_law_short : FuncData} (G_law_short : FnTk P w K mg base 5 3 f_law_short fd_law_short "_law_ask" (gmL K cs fldF tbs) m_law_short) (b_law_short : Binds K fd_law_short ["_law_ask"] []) (g_law_short : mg "_law_short" = some (.ref f_law_short)) (k_law_short : PySem.W.keepIn K (.ref f_law_short) = true)
    {f_successor : Addr} {fd_successor : FuncData} (G_successor : FnG P w K mg base (L2.CX P w) 3 f_successor fd_successor ["order", "live", "factor", "failed"] (spD (gmL K cs fldF tbs) 4 m_successor)) (b_successor : Binds K fd_successor ["order", "live", "factor", "failed"] []) (g_successor : mg "successor" = some (.ref f_successor)) (k_successor : PySem.W.keepIn K (.ref f_successor) = true)
    (z_range : mg "range" = none)
    (z_max : mg "max" = none)
    (z_min : mg "min" = none)
    (z_len : mg "len" = none)
    (z_tuple : mg "tuple" = none)
    (z_list : mg "list" = none)
    (z_repr : mg "repr" = none)
    {c_ P_ : Addr} (hc_ : fd.code = .ref c_) (TB_ : LamX.TabB base mg c_ P_) (hm_ : (P_, ((("law" : String) : Str) ++ ((".<locals>." : String) : Str)) ++ (("<lambda>" : String) : Str)) ∈ tbs) (hu_ : ∀ p ∈ tbs, p.1 = P_ → p.2 = ((("law" : String) : Str) ++ ((".<locals>." : String) : Str)) ++ (("<lambda>" : String) : Str)) :
    FnG P w K mg base (L2.CX P w) 6 f fd ["_law_script"] (spD (gmL K cs fldF tbs) 1 m_law) :=
  ok_defM (N := ["_law_script", "_law_k", "_law_stream_here", "_law_turn", "_law_n", "_law_depth", "_law_order", "_law_up", "_law_most", "_law_gone", "_law_due", "_law_again"]) (ps := ["_law_script"]) (body := DLaw.b_law) hc_ F sc_law fun A outer s H E hr hG => by
  have sc := sc_law
  have hu64 := hr.units
  have hu66 : (A.deeper (envOfC "law" (defScope s_law) s.heap.objs.size f (.ref c_))).units + 66 < cLine := by have := hr.un; omega
  exact
    (dss_cons (ds_for (passes_of rfl) rfl (di_range1 (by rfl) z_range (de_B (call_max2 rfl) call_max2S (by rfl) z_max (by decide +kernel) (da_cons de_int (da_cons (de_B (call_min2 rfl) call_min2S (by rfl) z_min (by decide +kernel) (da_cons de_int (da_cons (de_scrLen (pv 0) rfl (by rfl) z_len) da_nil))) da_nil)))) (dg_name (i := 1) sc.nd rfl (by first | exact .inl rfl | exact .inr rfl)) (dss_cons (ds_set (i := 2) sc.nd rfl (by first | exact .inl rfl | exact .inr rfl) (de_call G_law_stream (hr.mono (by decide)) hG (by rfl) g_law_stream k_law_stream b_law_stream (patX (takes_of rfl rfl rfl rfl)) (da_cons (de_var (pv 0)) (da_cons (de_var (pv 1)) da_nil))))
      (dss_one (ds_for (passes_of rfl) rfl (di_range1 (by rfl) z_range de_int) (dg_name (i := 3) sc.nd rfl (by first | exact .inl rfl | exact .inr rfl)) (dss_cons (ds_set (i := 4) sc.nd rfl (by first | exact .inl rfl | exact .inr rfl) (de_call G_law_pick (hr.mono (by decide)) hG (by rfl) g_law_pick k_law_pick b_law_pick (patX (takes_of rfl rfl rfl rfl)) (da_cons (de_var (pv 2)) (da_cons (de_lst (da_cons (de_op op_addX op_addS de_int (de_call G_law_draw (hr.mono (by decide)) hG (by rfl) g_law_draw k_law_draw b_law_draw (patX (takes_of rfl rfl rfl rfl)) (da_cons (de_var (pv 2)) (da_cons de_int da_nil)))) (da_cons (de_op op_addX op_addS de_int (de_call G_law_draw (hr.mono (by decide)) hG (by rfl) g_law_draw k_law_draw b_law_draw (patX (takes_of rfl rfl rfl rfl)) (da_cons (de_var (pv 2)) (da_cons de_int da_nil)))) (da_cons de_int da_nil)))) da_nil))))
        (dss_cons (ds_set (i := 5) sc.nd rfl (by first | exact .inl rfl | exact .inr rfl) (de_call G_law_pick (hr.mono (by decide)) hG (by rfl) g_law_pick k_law_pick b_law_pick (patX (takes_of rfl rfl rfl rfl)) (da_cons (de_var (pv 2)) (da_cons (de_lst (da_cons (de_var (pv 4)) (da_cons (de_op op_addX op_addS de_int (de_call G_law_draw (hr.mono (by decide)) hG (by rfl) g_law_draw k_law_draw b_law_draw (patX (takes_of rfl rfl rfl rfl)) (da_cons (de_var (pv 2)) (da_cons (de_var (pv 4)) da_nil)))) da_nil))) da_nil))))
        (dss_cons (ds_set (i := 6) sc.nd rfl (by first | exact .inl rfl | exact .inr rfl) (de_T call_tupleT' call_tupleS (by rfl) z_tuple (by decide +kernel) (da_cons (de_slice (de_call G_law_shuffled (hr.mono (by decide)) hG (by rfl) g_law_shuffled k_law_shuffled b_law_shuffled (patX (takes_of rfl rfl rfl rfl)) (da_cons (de_var (pv 2)) (da_cons (de_listRg1 rfl (by rfl) z_list (by rfl) z_range (de_var (pv 4))) da_nil))) do_none (do_some (de_var (pv 5)))) da_nil)))
        (dss_cons (ds_set (i := 7) sc.nd rfl (by first | exact .inl rfl | exact .inr rfl) (de_call G_law_some (hr.mono (by decide)) hG (by rfl) g_law_some k_law_some b_law_some (patX (takes_of rfl rfl rfl rfl)) (da_cons (de_var (pv 2)) (da_cons (de_listRg1 rfl (by rfl) z_list (by rfl) z_range (de_var (pv 4))) (da_cons de_int da_nil)))))
        (dss_cons (ds_set (i := 8) sc.nd rfl (by first | exact .inl rfl | exact .inr rfl) (de_op op_addX op_addS de_int (de_call G_law_draw (hr.mono (by decide)) hG (by rfl) g_law_draw k_law_draw b_law_draw (patX (takes_of rfl rfl rfl rfl)) (da_cons (de_var (pv 2)) (da_cons (de_op op_sub op_subS (de_B call_lenX call_lenS (by rfl) z_len PySem.boot_len (da_cons (de_var (pv 7)) da_nil)) de_int) da_nil)))))
        (dss_one (ds_for (passes_of rfl) rfl (di_seq (de_op op_addX op_addS (de_lc (own := [("_law_again", 11)]) (ws := [11]) rfl sc.nd (di_range1 (by rfl) z_range de_int) (blkOk_by (N := ["_law_script", "_law_k", "_law_stream_here", "_law_turn", "_law_n", "_law_depth", "_law_order", "_law_up", "_law_most", "_law_gone", "_law_due", "_law_again"]) (sc := defScope s_law) (by decide +kernel)) (by decide) (fun _ _ _ _ _ => (dg_name (i := 11) sc.nd rfl (by first | exact .inl rfl | exact .inr rfl))) (fun _ _ _ _ _ => dts_nil) (fun _ _ _ _ _ => (de_call G_law_pick (hr.mono (by decide)) hG (by rfl) g_law_pick k_law_pick b_law_pick (fun _ => patF) (da_cons (de_var (pv 2)) (da_cons (de_var (pv 7)) da_nil))))) (de_lst (da_cons (de_ix ix_seq ix_S (de_var (pv 7)) de_int (fun _ _ => rfl)) (da_cons (de_ix ix_seq ix_S (de_var (pv 7)) (de_un un_neg un_negS de_int) (fun _ _ => rfl)) da_nil))))) (dg_name (i := 9) sc.nd rfl (by first | exact .inl rfl | exact .inr rfl)) (dss_cons (ds_set (i := 10) sc.nd rfl (by first | exact .inl rfl | exact .inr rfl) (de_call G_law_next (hr.mono (by decide)) hG (by rfl) g_law_next k_law_next b_law_next (patX (takes_of rfl rfl rfl rfl)) (da_cons (de_var (pv 6)) (da_cons (de_var (pv 7)) (da_cons (de_var (pv 8)) (da_cons (de_var (pv 9)) da_nil))))))
          (dss_one (ds_if (dt_cmp (op_neD hu64) op_neS (de_B (call_reprD hG hu66) call_reprDS (by rfl) z_repr (by decide +kernel) (da_cons (de_callL (kT := 3) G_law_short (hr.mono (by decide)) hG (by rfl) g_law_short k_law_short b_law_short rfl TB_ rfl hm_ hu_ (takes_of rfl rfl rfl rfl) (LamX.lamS_by (sc := defScope s_law) (by decide +kernel)) rfl (fun _ _ _ _ _ => rfl) (fun A outer s H E f c' hr hG => by
      have hu64 := hr.units
      have hu66 := room66 hr
      exact (de_call G_successor (hr.mono (by decide)) hG (by rfl) g_successor k_successor b_successor (patX (takes_of rfl rfl rfl rfl)) (da_cons (de_var (pv 6)) (da_cons (de_var (pv 7)) (da_cons (de_var (pv 8)) (da_cons (de_var (pv 9)) da_nil))))))) da_nil)) (de_B (call_reprD hG hu66) call_reprDS (by rfl) z_repr (by decide +kernel) (da_cons (de_var (pv 10)) da_nil)) (nomark _)) (dss_one (ds_ret de_bl)) dss_nil))))))))))))))
    (dss_one (ds_ret de_bl)))
end
theorem all_mk {l : PySem.W.OpenLaw} {w : World} {K : PySem.W.Frag} {h : Heap} {mg : Str → Option Value} {fa f_law f0 f1 f2 f3 f4 f5 f6 f7 f8 f9 : Addr} (X : K.In h) (G : h.Ns mainGlobals mg) (hfa : mg "law" = some (.ref fa))
    {od0 an0 : Option Addr} {sl0 : Array (Option Value)} {oc0 kV0 dc0 pm0 cd0 ct0 : Value}
    {od1 an1 : Option Addr} {sl1 : Array (Option Value)} {oc1 kV1 dc1 pm1 cd1 ct1 : Value}
    {od2 an2 : Option Addr} {sl2 : Array (Option Value)} {oc2 kV2 dc2 pm2 cd2 ct2 : Value}
    {od3 an3 : Option Addr} {sl3 : Array (Option Value)} {oc3 kV3 dc3 pm3 cd3 ct3 : Value}
    {od4 an4 : Option Addr} {sl4 : Array (Option Value)} {oc4 kV4 dc4 pm4 cd4 ct4 : Value}
    {od5 an5 : Option Addr} {sl5 : Array (Option Value)} {oc5 kV5 dc5 pm5 cd5 ct5 : Value}
    {od6 an6 : Option Addr} {sl6 : Array (Option Value)} {oc6 kV6 dc6 pm6 cd6 ct6 : Value}
    {od7 an7 : Option Addr} {sl7 : Array (Option Value)} {oc7 kV7 dc7 pm7 cd7 ct7 : Value}
    {od8 an8 : Option Addr} {sl8 : Array (Option Value)} {oc8 kV8 dc8 pm8 cd8 ct8 : Value}
    {od9 an9 : Option Addr} {sl9 : Array (Option Value)} {oc9 kV9 dc9 pm9 cd9 ct9 : Value}
    {cc10 PP10 : Addr} {vs10 : Array Value} {ec10 : Value} {dd10 : Option Addr} {scl10 : Array (Option Value)} {od10 an10 : Option Addr} {sl10 : Array (Option Value)} {oc10 kV10 dc10 pm10 ct10 : Value}
    (a0 : PySem.W.nsIn K mainGlobals "_law_stream" = some (some (.ref f0))) (l0 : K.lookup f0 = some ⟨oc0, od0, .func (PySem.W.fnOf "_law_stream" "_law_stream" (defArgs s_law_stream) (defBody s_law_stream) (defScope s_law_stream) .none kV0 dc0 pm0 an0 cd0 ct0), sl0⟩) (c0 : PySem.W.codeIn K cd0 "_law_stream" = true) (k0 : PySem.W.keepIn K (.ref f0) = true)
    (a1 : PySem.W.nsIn K mainGlobals "_law_draw" = some (some (.ref f1))) (l1 : K.lookup f1 = some ⟨oc1, od1, .func (PySem.W.fnOf "_law_draw" "_law_draw" (defArgs s_law_draw) (defBody s_law_draw) (defScope s_law_draw) .none kV1 dc1 pm1 an1 cd1 ct1), sl1⟩) (c1 : PySem.W.codeIn K cd1 "_law_draw" = true) (k1 : PySem.W.keepIn K (.ref f1) = true)
    (a2 : PySem.W.nsIn K mainGlobals "_law_pick" = some (some (.ref f2))) (l2 : K.lookup f2 = some ⟨oc2, od2, .func (PySem.W.fnOf "_law_pick" "_law_pick" (defArgs s_law_pick) (defBody s_law_pick) (defScope s_law_pick) .none kV2 dc2 pm2 an2 cd2 ct2), sl2⟩) (c2 : PySem.W.codeIn K cd2 "_law_pick" = true) (k2 : PySem.W.keepIn K (.ref f2) = true)
    (a3 : PySem.W.nsIn K mainGlobals "_law_shuffled" = some (some (.ref f3))) (l3 : K.lookup f3 = some ⟨oc3, od3, .func (PySem.W.fnOf "_law_shuffled" "_law_shuffled" (defArgs s_law_shuffled) (defBody s_law_shuffled) (defScope s_law_shuffled) .none kV3 dc3 pm3 an3 cd3 ct3), sl3⟩) (c3 : PySem.W.codeIn K cd3 "_law_shuffled" = true) (k3 : PySem.W.keepIn K (.ref f3) = true)
    (a4 : PySem.W.nsIn K mainGlobals "_law_some" = some (some (.ref f4))) (l4 : K.lookup f4 = some ⟨oc4, od4, .func (PySem.W.fnOf "_law_some" "_law_some" (defArgs s_law_some) (defBody s_law_some) (defScope s_law_some) .none kV4 dc4 pm4 an4 cd4 ct4), sl4⟩) (c4 : PySem.W.codeIn K cd4 "_law_some" = true) (k4 : PySem.W.keepIn K (.ref f4) = true)
    (a5 : PySem.W.nsIn K mainGlobals "_law_alive" = some (some (.ref f5))) (l5 : K.lookup f5 = some ⟨oc5, od5, .func (PySem.W.fnOf "_law_alive" "_law_alive" (defArgs s_law_alive) (defBody s_law_alive) (defScope s_law_alive) .none kV5 dc5 pm5 an5 cd5 ct5), sl5⟩) (c5 : PySem.W.codeIn K cd5 "_law_alive" = true) (k5 : PySem.W.keepIn K (.ref f5) = true)
    (a6 : PySem.W.nsIn K mainGlobals "_law_next" = some (some (.ref f6))) (l6 : K.lookup f6 = some ⟨oc6, od6, .func (PySem.W.fnOf "_law_next" "_law_next" (defArgs s_law_next) (defBody s_law_next) (defScope s_law_next) .none kV6 dc6 pm6 an6 cd6 ct6), sl6⟩) (c6 : PySem.W.codeIn K cd6 "_law_next" = true) (k6 : PySem.W.keepIn K (.ref f6) = true)
    (a7 : PySem.W.nsIn K mainGlobals "_law_short" = some (some (.ref f7))) (l7 : K.lookup f7 = some ⟨oc7, od7, .func (PySem.W.fnOf "_law_short" "_law_short" (defArgs s_law_short) (defBody s_law_short) (defScope s_law_short) .none kV7 dc7 pm7 an7 cd7 ct7), sl7⟩) (c7 : PySem.W.codeIn K cd7 "_law_short" = true) (k7 : PySem.W.keepIn K (.ref f7) = true)
    (a8 : PySem.W.nsIn K mainGlobals "live_in" = some (some (.ref f8))) (l8 : K.lookup f8 = some ⟨oc8, od8, .func (PySem.W.fnOf "live_in" "live_in" (defArgs s_live_in) (defBody s_live_in) (defScope s_live_in) .none kV8 dc8 pm8 an8 cd8 ct8), sl8⟩) (c8 : PySem.W.codeIn K cd8 "live_in" = true) (k8 : PySem.W.keepIn K (.ref f8) = true)
    (a9 : PySem.W.nsIn K mainGlobals "successor" = some (some (.ref f9))) (l9 : K.lookup f9 = some ⟨oc9, od9, .func (PySem.W.fnOf "successor" "successor" (defArgs s_successor) (defBody s_successor) (defScope s_successor) .none kV9 dc9 pm9 an9 cd9 ct9), sl9⟩) (c9 : PySem.W.codeIn K cd9 "successor" = true) (k9 : PySem.W.keepIn K (.ref f9) = true)
    (a10 : PySem.W.nsIn K mainGlobals "law" = some (some (.ref f_law))) (l10 : K.lookup f_law = some ⟨oc10, od10, .func (PySem.W.fnOf "law" "law" (defArgs s_law) (defBody s_law) (defScope s_law) .none kV10 dc10 pm10 an10 (.ref cc10) ct10), sl10⟩) (c10 : PySem.W.codeIn K (.ref cc10) "law" = true) (k10 : PySem.W.keepIn K (.ref f_law) = true)
    (vc10 : K.lookup cc10 = some ⟨ec10, dd10, .fields vs10, scl10⟩) (pc10 : vs10[11]? = some (.ref PP10)) (nc10 : K.lookup PP10 = none)
    (z_len : PySem.W.nsIn K mainGlobals "len" = some none)
    (z_abs : PySem.W.nsIn K mainGlobals "abs" = some none)
    (z_int : PySem.W.nsIn K mainGlobals "int" = some none)
    (z_list : PySem.W.nsIn K mainGlobals "list" = some none)
    (z_tuple : PySem.W.nsIn K mainGlobals "tuple" = some none)
    (z_sorted : PySem.W.nsIn K mainGlobals "sorted" = some none)
    (z_isinstance : PySem.W.nsIn K mainGlobals "isinstance" = some none)
    (z_ValueError : PySem.W.nsIn K mainGlobals "ValueError" = some none)
    (z_range : PySem.W.nsIn K mainGlobals "range" = some none)
    (z_max : PySem.W.nsIn K mainGlobals "max" = some none)
    (z_min : PySem.W.nsIn K mainGlobals "min" = some none)
    (z_repr : PySem.W.nsIn K mainGlobals "repr" = some none)
    {C_FailoverError : Addr} (cg_FailoverError : PySem.W.nsIn K mainGlobals "FailoverError" = some (some (.ref C_FailoverError)))
    {C_TooShort : Addr} (cg_TooShort : PySem.W.nsIn K mainGlobals "TooShort" = some (some (.ref C_TooShort)))
    (hS_ : PySem.W.specialIn K (.ref C_FailoverError) "__getattribute__" = some (some (.builtin "type.__getattribute__"))) (hR_ : PySem.W.readsIn K C_FailoverError (.type "type") = true) (hF_ : PySem.W.findCls K (.ref C_FailoverError) (.type "type") "__init__" = some (.val (.builtin "ValueError.__init__")))
    (hn_ : PySem.W.specialIn K (.builtin "object.__class__") "__get__" = some (some (.builtin "getset_descriptor.__get__"))) (ht_ : PySem.W.takesIn K (.builtin "object.__class__") = some true)
    {nm_TooShort q_TooShort : Str} {N_TooShort fI_TooShort : Addr} {bs_TooShort bm_TooShort sub_TooShort : List Value} {sn_TooShort : List Str} {ab_TooShort : Bool} {col_TooShort : Option Bool} {dd_TooShort odI_TooShort anI_TooShort : Option Addr} {m0_TooShort m1_TooShort m2_TooShort m3_TooShort m5_TooShort : Option Value} {slI_TooShort : Array (Option Value)} {ocI_TooShort kVI_TooShort dcI_TooShort pmI_TooShort cdI_TooShort ctI_TooShort : Value}
    (xl_TooShort : K.lookup C_TooShort = some (excClassObj nm_TooShort q_TooShort C_TooShort N_TooShort bs_TooShort bm_TooShort true sn_TooShort sub_TooShort ab_TooShort col_TooShort dd_TooShort m0_TooShort m1_TooShort m2_TooShort m3_TooShort m5_TooShort "ValueError.__new__")) (rv_TooShort : PySem.HandSPX.refsVE bm_TooShort = true) (sa_TooShort : PySem.W.findIn K (.ref C_TooShort) "__setattr__" = some (some (.builtin "object.__setattr__"))) (ga_TooShort : PySem.W.findIn K (.ref C_TooShort) "__getattribute__" = some (some (.builtin "BaseException.__getattribute__"))) (gk_TooShort : PySem.W.findIn K (.ref C_TooShort) "__getattr__" = some none) (nb_TooShort : PySem.W.findIn K (.ref C_TooShort) "order" = some none) (ai_TooShort : PySem.W.findIn K (.ref C_TooShort) "__init__" = some (some (.ref fI_TooShort))) (ti_TooShort : PySem.W.typeIn K (.ref fI_TooShort) = some (.type "function")) (li_TooShort : K.lookup fI_TooShort = some ⟨ocI_TooShort, odI_TooShort, .func (PySem.W.fnOf "__init__" "TooShort.__init__" (defArgs si_TooShort) (defBody si_TooShort) (defScope si_TooShort) .none kVI_TooShort dcI_TooShort pmI_TooShort anI_TooShort cdI_TooShort ctI_TooShort), slI_TooShort⟩) (ci_TooShort : PySem.W.codeIn K cdI_TooShort "TooShort.__init__" = true) (ki_TooShort : PySem.W.keepIn K (.ref fI_TooShort) = true) (kC_TooShort : PySem.W.keepIn K (.ref C_TooShort) = true) (eC_TooShort : PySem.W.subIn K (.ref C_TooShort) (.type "BaseException") = some true) (tC_TooShort : PySem.W.typeIn K (.ref C_TooShort) = some (.type "type")) (hC_TooShort : PySem.W.hasDictIn K C_TooShort = true) (hc_TooShort : PySem.W.findIn K (.ref C_TooShort) "__class__" = some (some (.builtin "object.__class__"))) (hm_TooShort : PySem.W.mroIn K C_TooShort (.type "object") = some true) (te_TooShort : PySem.W.exmOne K (.ref C_TooShort) (.ref C_FailoverError) = some true) (qq0_TooShort : PySem.W.kitOne K (.ref C_TooShort) (.type "ValueError") = some true) (qq1_TooShort : PySem.W.kitOne K (.ref C_TooShort) (.ref C_TooShort) = some true)
    (own : ∀ x ∈ (["law"] : List Str), ∀ f, mg x = some (.ref f) → OwnC K f h)
    : ∃ (fd : FuncData) (G : Gm) (cs : List (Addr × Addr)), G.K = K ∧ G.tk = none ∧ (∀ p ∈ G.T, ∃ c, (c, p.1) ∈ cs) ∧ (∀ p ∈ cs, h.get? p.2 = some tab0 ∧ K.lookup p.2 = none ∧ PySem.W.CodeHd h p.1 p.2) ∧ (∀ (s : Shared) (v : Value), BindsTo s fd ⟨[v], []⟩ [("_law_script", v)]) ∧ ∀ base : Heap, K.In base → base.Ns mainGlobals mg → NoDig base → (∀ p ∈ cs, LamX.TabB base mg p.1 p.2) → FnG l.prog w K mg base (L2.CX l.prog w) 6 fa fd ["_law_script"] (spD G 1 m_law) := by
  have e := hfa.symm.trans (PySem.W.mg_of X G a10)
  cases e
  have F0 := fun_mk (st := s_law_stream) l0 c0 k0
  have b0 := F0.binds (ps := ["_law_script", "_law_k"]) fun _ _ _ _ _ _ us hl => match us, hl with | [_, _], _ => rfl
  have g0 := PySem.W.mg_of X G a0
  have F1 := fun_mk (st := s_law_draw) l1 c1 k1
  have b1 := F1.binds (ps := ["_law_stream_here", "_law_below"]) fun _ _ _ _ _ _ us hl => match us, hl with | [_, _], _ => rfl
  have g1 := PySem.W.mg_of X G a1
  have F2 := fun_mk (st := s_law_pick) l2 c2 k2
  have b2 := F2.binds (ps := ["_law_stream_here", "_law_items"]) fun _ _ _ _ _ _ us hl => match us, hl with | [_, _], _ => rfl
  have g2 := PySem.W.mg_of X G a2
  have F3 := fun_mk (st := s_law_shuffled) l3 c3 k3
  have b3 := F3.binds (ps := ["_law_stream_here", "_law_items"]) fun _ _ _ _ _ _ us hl => match us, hl with | [_, _], _ => rfl
  have g3 := PySem.W.mg_of X G a3
  have F4 := fun_mk (st := s_law_some) l4 c4 k4
  have b4 := F4.binds (ps := ["_law_stream_here", "_law_items", "_law_least"]) fun _ _ _ _ _ _ us hl => match us, hl with | [_, _, _], _ => rfl
  have g4 := PySem.W.mg_of X G a4
  have F5 := fun_mk (st := s_law_alive) l5 c5 k5
  have b5 := F5.binds (ps := ["_law_order", "_law_up"]) fun _ _ _ _ _ _ us hl => match us, hl with | [_, _], _ => rfl
  have g5 := PySem.W.mg_of X G a5
  have F6 := fun_mk (st := s_law_next) l6 c6 k6
  have b6 := F6.binds (ps := ["_law_order", "_law_up", "_law_most", "_law_gone"]) fun _ _ _ _ _ _ us hl => match us, hl with | [_, _, _, _], _ => rfl
  have g6 := PySem.W.mg_of X G a6
  have F7 := fun_mk (st := s_law_short) l7 c7 k7
  have b7 := F7.binds (ps := ["_law_ask"]) fun _ _ _ _ _ _ us hl => match us, hl with | [_], _ => rfl
  have g7 := PySem.W.mg_of X G a7
  have F8 := fun_mk (st := s_live_in) l8 c8 k8
  have b8 := F8.binds (ps := ["order", "live"]) fun _ _ _ _ _ _ us hl => match us, hl with | [_, _], _ => rfl
  have g8 := PySem.W.mg_of X G a8
  have F9 := fun_mk (st := s_successor) l9 c9 k9
  have b9 := F9.binds (ps := ["order", "live", "factor", "failed"]) fun _ _ _ _ _ _ us hl => match us, hl with | [_, _, _, _], _ => rfl
  have g9 := PySem.W.mg_of X G a9
  have F10 := fun_mk (st := s_law) l10 c10 k10
  have b10 := F10.binds (ps := ["_law_script"]) fun _ _ _ _ _ _ us hl => match us, hl with | [_], _ => rfl
  have g10 := PySem.W.mg_of X G a10
  have zz_len := PySem.W.mg_none_of X G z_len
  have zz_abs := PySem.W.mg_none_of X G z_abs
  have zz_int := PySem.W.mg_none_of X G z_int
  have zz_list := PySem.W.mg_none_of X G z_list
  have zz_tuple := PySem.W.mg_none_of X G z_tuple
  have zz_sorted := PySem.W.mg_none_of X G z_sorted
  have zz_isinstance := PySem.W.mg_none_of X G z_isinstance
  have zz_ValueError := PySem.W.mg_none_of X G z_ValueError
  have zz_range := PySem.W.mg_none_of X G z_range
  have zz_max := PySem.W.mg_none_of X G z_max
  have zz_min := PySem.W.mg_none_of X G z_min
  have zz_repr := PySem.W.mg_none_of X G z_repr
  refine ⟨PySem.W.fnOf "law" "law" (defArgs s_law) (defBody s_law) (defScope s_law) .none kV10 dc10 pm10 an10 (.ref cc10) ct10, (gmL K [("TooShort", C_TooShort)] fldF ([(PP10, ((("law" : String) : Str) ++ ((".<locals>." : String) : Str)) ++ (("<lambda>" : String) : Str))] : List (Addr × Str))), [(cc10, PP10)], rfl, rfl, ?_, ?_, fun s v => .of_eq rfl, fun base hb hn hdig hTB => ?_⟩
  · intro p hp
    simp only [List.mem_cons, List.not_mem_nil, or_false] at hp
    rcases hp with rfl
    · exact ⟨cc10, by simp⟩
  · intro p hp
    simp only [List.mem_cons, List.not_mem_nil, or_false] at hp
    rcases hp with rfl
    · exact ⟨(own _ (by simp) _ g10 _ _ _ _ _ _ _ _ l10 rfl rfl vc10 pc10).1, nc10, (own _ (by simp) _ g10 _ _ _ _ _ _ _ _ l10 rfl rfl vc10 pc10).2⟩
  have tb10 := hTB (cc10, PP10) (by simp)
  have hu10 : ∀ p ∈ ([(PP10, ((("law" : String) : Str) ++ ((".<locals>." : String) : Str)) ++ (("<lambda>" : String) : Str))] : List (Addr × Str)), p.1 = PP10 → p.2 = ((("law" : String) : Str) ++ ((".<locals>." : String) : Str)) ++ (("<lambda>" : String) : Str) := by
    intro p hp e
    simp only [List.mem_cons, List.not_mem_nil, or_false] at hp
    rcases hp with rfl
    · rfl
  have gg_FailoverError := PySem.W.mg_of X G cg_FailoverError
  have gg_TooShort := PySem.W.mg_of X G cg_TooShort
  have FI_TooShort := fun_mk (st := si_TooShort) li_TooShort ci_TooShort ki_TooShort
  have bI_TooShort := FI_TooShort.binds (ps := ["self", "order"]) fun _ _ _ _ _ _ us hl => match us, hl with | [_, _], _ => rfl
  have EC_TooShort : ErrC l.prog w K mg base (gmL K [("TooShort", C_TooShort)] fldF ([(PP10, ((("law" : String) : Str) ++ ((".<locals>." : String) : Str)) ++ (("<lambda>" : String) : Str))] : List (Addr × Str))) "TooShort" "order" C_TooShort fI_TooShort _ := ⟨by rfl, by rfl, gg_TooShort, ⟨⟨_, _, _, _, _, _, _, _, _, _, _, _, _, _, _, xl_TooShort, rv_TooShort⟩, sa_TooShort, eC_TooShort, tC_TooShort, kC_TooShort⟩, ai_TooShort, ti_TooShort, nb_TooShort, oki_TooShort FI_TooShort gg_FailoverError hS_ hR_ hF_, bI_TooShort⟩
  have xI : AllC [("TooShort", C_TooShort)] (fun _ C => L2.ExcC K C) := ⟨⟨ga_TooShort, gk_TooShort, eC_TooShort, hC_TooShort, hc_TooShort, hn_, ht_, hm_TooShort⟩, trivial⟩
  have xT : AllC [("TooShort", C_TooShort)] (fun _ C => PySem.W.exmOne K (.ref C) (.ref C_FailoverError) = some true) := ⟨te_TooShort, trivial⟩
  have q_0 : AllC [("TooShort", C_TooShort)] (fun c C => PySem.W.kitOne K (.ref C) (.type "ValueError") = some ((fun c : String => ["TooShort"].contains c) c)) := ⟨qq0_TooShort, trivial⟩
  have q_1 : AllC [("TooShort", C_TooShort)] (fun c C => PySem.W.kitOne K (.ref C) (.ref C_TooShort) = some ((fun c : String => ["TooShort"].contains c) c)) := ⟨qq1_TooShort, trivial⟩
  have xA_order : AllC [("TooShort", C_TooShort)] (fun c C => (["TooShort"] : List String).contains c = true → ((fldF c : String) : Str) = ("order" : String) ∧ L2.XfC K C ∧ PySem.W.findIn K (.ref C) (("order" : String) : Str) = some none) := ⟨(fun _ => ⟨by rfl, ⟨ga_TooShort, gk_TooShort, eC_TooShort, hC_TooShort⟩, nb_TooShort⟩), trivial⟩
  have G0 := ok_law_stream (P := l.prog) (w := w) (mg := mg) (base := base) F0 (C_FailoverError := C_FailoverError) (C_TooShort := C_TooShort) (z_len := zz_len) (z_abs := zz_abs) (z_int := zz_int) (cs := [("TooShort", C_TooShort)]) (tbs := [(PP10, ((("law" : String) : Str) ++ ((".<locals>." : String) : Str)) ++ (("<lambda>" : String) : Str))]) (nd := hdig)
  have G1 := ok_law_draw (P := l.prog) (w := w) (mg := mg) (base := base) F1 (C_FailoverError := C_FailoverError) (C_TooShort := C_TooShort) (cs := [("TooShort", C_TooShort)]) (tbs := [(PP10, ((("law" : String) : Str) ++ ((".<locals>." : String) : Str)) ++ (("<lambda>" : String) : Str))])
  have G2 := ok_law_pick (P := l.prog) (w := w) (mg := mg) (base := base) F2 (C_FailoverError := C_FailoverError) (C_TooShort := C_TooShort) (G_law_draw := G1) (b_law_draw := b1) (g_law_draw := g1) (k_law_draw := k1) (z_len := zz_len) (cs := [("TooShort", C_TooShort)]) (tbs := [(PP10, ((("law" : String) : Str) ++ ((".<locals>." : String) : Str)) ++ (("<lambda>" : String) : Str))])
  have G3 := ok_law_shuffled (P := l.prog) (w := w) (mg := mg) (base := base) F3 (C_FailoverError := C_FailoverError) (C_TooShort := C_TooShort) (G_law_draw := G1) (b_law_draw := b1) (g_law_draw := g1) (k_law_draw := k1) (z_list := zz_list) (z_len := zz_len) (cs := [("TooShort", C_TooShort)]) (tbs := [(PP10, ((("law" : String) : Str) ++ ((".<locals>." : String) : Str)) ++ (("<lambda>" : String) : Str))])
  have G4 := ok_law_some (P := l.prog) (w := w) (mg := mg) (base := base) F4 (C_FailoverError := C_FailoverError) (C_TooShort := C_TooShort) (G_law_draw := G1) (b_law_draw := b1) (g_law_draw := g1) (k_law_draw := k1) (G_law_shuffled := G3) (b_law_shuffled := b3) (g_law_shuffled := g3) (k_law_shuffled := k3) (z_len := zz_len) (z_tuple := zz_tuple) (z_sorted := zz_sorted) (cs := [("TooShort", C_TooShort)]) (tbs := [(PP10, ((("law" : String) : Str) ++ ((".<locals>." : String) : Str)) ++ (("<lambda>" : String) : Str))])
  have G5 := ok_law_alive (P := l.prog) (w := w) (mg := mg) (base := base) F5 (C_FailoverError := C_FailoverError) (C_TooShort := C_TooShort) (cs := [("TooShort", C_TooShort)]) (tbs := [(PP10, ((("law" : String) : Str) ++ ((".<locals>." : String) : Str)) ++ (("<lambda>" : String) : Str))])
  have G6 := ok_law_next (P := l.prog) (w := w) (mg := mg) (base := base) F6 (C_FailoverError := C_FailoverError) (C_TooShort := C_TooShort) (G_law_alive := G5) (b_law_alive := b5) (g_law_alive := g5) (k_law_alive := k5) (z_len := zz_len) (cs := [("TooShort", C_TooShort)]) (tbs := [(PP10, ((("law" : String) : Str) ++ ((".<locals>." : String) : Str)) ++ (("<lambda>" : String) : Str))])
  have G7 := ok_law_short (P := l.prog) (w := w) (mg := mg) (base := base) F7 (C_FailoverError := C_FailoverError) (C_TooShort := C_TooShort) (g_FailoverError := gg_FailoverError) (g_TooShort := gg_TooShort) (xI := xI) (q_0 := q_0) (q_1 := q_1) (xA_order := xA_order) (xT := xT) (z_isinstance := zz_isinstance) (z_ValueError := zz_ValueError) (cs := [("TooShort", C_TooShort)]) (tbs := [(PP10, ((("law" : String) : Str) ++ ((".<locals>." : String) : Str)) ++ (("<lambda>" : String) : Str))])
  have G8 := ok_live_in (P := l.prog) (w := w) (mg := mg) (base := base) F8 (C_FailoverError := C_FailoverError) (C_TooShort := C_TooShort) (cs := [("TooShort", C_TooShort)]) (tbs := [(PP10, ((("law" : String) : Str) ++ ((".<locals>." : String) : Str)) ++ (("<lambda>" : String) : Str))])
  have G9 := ok_successor (P := l.prog) (w := w) (mg := mg) (base := base) F9 (C_FailoverError := C_FailoverError) (C_TooShort := C_TooShort) (EC_TooShort := EC_TooShort) (G_live_in := G8) (b_live_in := b8) (g_live_in := g8) (k_live_in := k8) (z_len := zz_len) (cs := [("TooShort", C_TooShort)]) (tbs := [(PP10, ((("law" : String) : Str) ++ ((".<locals>." : String) : Str)) ++ (("<lambda>" : String) : Str))])
  exact ok_law (P := l.prog) (w := w) (mg := mg) (base := base) F10 (C_FailoverError := C_FailoverError) (C_TooShort := C_TooShort) (G_law_stream := G0) (b_law_stream := b0) (g_law_stream := g0) (k_law_stream := k0) (G_law_pick := G2) (b_law_pick := b2) (g_law_pick := g2) (k_law_pick := k2) (G_law_draw := G1) (b_law_draw := b1) (g_law_draw := g1) (k_law_draw := k1) (G_law_shuffled := G3) (b_law_shuffled := b3) (g_law_shuffled := g3) (k_law_shuffled := k3) (G_law_some := G4) (b_law_some := b4) (g_law_some := g4) (k_law_some := k4) (G_law_next := G6) (b_law_next := b6) (g_law_next := g6) (k_law_next := k6) (G_law_short := G7) (b_law_short := b7) (g_law_short := g7) (k_law_short := k7) (G_successor := G9) (b_successor := b9) (g_successor := g9) (k_successor := k9) (z_range := zz_range) (z_max := zz_max) (z_min := zz_min) (z_len := zz_len) (z_tuple := zz_tuple) (z_list := zz_list) (z_repr := zz_repr) (cs := [("TooShort", C_TooShort)]) (tbs := [(PP10, ((("law" : String) : Str) ++ ((".<locals>." : String) : Str)) ++ (("<lambda>" : String) : Str))]) (hc_ := rfl) (TB_ := tb10) (hm_ := by simp) (hu_ := hu10)
end DLaw
open PySem PySem.W PyProof.Rows
set_option maxHeartbeats 0 in
theorem PySem.Challenge.cw_evenfailover_k30_successors_of_one_list_holds : PySem.Challenge.rw_evenfailover_k30_successors_of_one_list.Holds := by
  w_on; o_law; k_head; (case hw => w_witness2)
  k_fill
  refine DL.walk_GL (mk := ["law"]) (l := PySem.Challenge.rw_evenfailover_k30_successors_of_one_list) (n := 63) (k := 6) (x := "_law_script") (CX := fun w => L2.CX PySem.Challenge.rw_evenfailover_k30_successors_of_one_list.prog w) (F := DLaw.m_law) rfl (by decide) rfl ⟨rfl, by decide, by decide⟩ (fun w h Y => PySem.W.km_in_of Y) (by decide +kernel) ?F DLaw.law_true (fun _ _ _ _ _ ⟨_, _, _, _, _, _, _, _, _, _, _, _, z⟩ => z)
  case F =>
    intro w mg fa h KX G hmg own
    refine' DLaw.all_mk KX G hmg ?a0 ?l0 ?c0 ?k0 ?a1 ?l1 ?c1 ?k1 ?a2 ?l2 ?c2 ?k2 ?a3 ?l3 ?c3 ?k3 ?a4 ?l4 ?c4 ?k4 ?a5 ?l5 ?c5 ?k5 ?a6 ?l6 ?c6 ?k6 ?a7 ?l7 ?c7 ?k7 ?a8 ?l8 ?c8 ?k8 ?a9 ?l9 ?c9 ?k9 ?a10 ?l10 ?c10 ?k10 ?vc10 ?pc10 ?nc10 ?z_len ?z_abs ?z_int ?z_list ?z_tuple ?z_sorted ?z_isinstance ?z_ValueError ?z_range ?z_max ?z_min ?z_repr ?cg_FailoverError ?cg_TooShort ?hS_ ?hR_ ?hF_ ?hn_ ?ht_ ?xl_TooShort ?rv_TooShort ?sa_TooShort ?ga_TooShort ?gk_TooShort ?nb_TooShort ?ai_TooShort ?ti_TooShort ?li_TooShort ?ci_TooShort ?ki_TooShort ?kC_TooShort ?eC_TooShort ?tC_TooShort ?hC_TooShort ?hc_TooShort ?hm_TooShort ?te_TooShort ?qq0_TooShort ?qq1_TooShort ?own
    (case a0 => k_is); (case l0 => k_is); (case c0 => k_is); (case k0 => k_is); (case a1 => k_is); (case l1 => k_is); (case c1 => k_is); (case k1 => k_is); (case a2 => k_is); (case l2 => k_is); (case c2 => k_is); (case k2 => k_is); (case a3 => k_is); (case l3 => k_is); (case c3 => k_is); (case k3 => k_is); (case a4 => k_is); (case l4 => k_is); (case c4 => k_is); (case k4 => k_is); (case a5 => k_is); (case l5 => k_is); (case c5 => k_is); (case k5 => k_is); (case a6 => k_is); (case l6 => k_is); (case c6 => k_is); (case k6 => k_is); (case a7 => k_is); (case l7 => k_is); (case c7 => k_is); (case k7 => k_is); (case a8 => k_is); (case l8 => k_is); (case c8 => k_is); (case k8 => k_is); (case a9 => k_is); (case l9 => k_is); (case c9 => k_is); (case k9 => k_is); (case a10 => k_is); (case l10 => k_is); (case c10 => k_is); (case k10 => k_is); (case vc10 => k_is); (case pc10 => first | rfl | decide +kernel); (case nc10 => first | rfl | decide +kernel); (case z_len => k_is); (case z_abs => k_is); (case z_int => k_is); (case z_list => k_is); (case z_tuple => k_is); (case z_sorted => k_is); (case z_isinstance => k_is); (case z_ValueError => k_is); (case z_range => k_is); (case z_max => k_is); (case z_min => k_is); (case z_repr => k_is); (case cg_FailoverError => k_is); (case cg_TooShort => k_is); (case hS_ => k_is); (case hR_ => k_is); (case hF_ => k_is); (case hn_ => k_is); (case ht_ => k_is); (case xl_TooShort => k_is); (case rv_TooShort => first | rfl | decide +kernel); (case sa_TooShort => k_is); (case ga_TooShort => k_is); (case gk_TooShort => k_is); (case nb_TooShort => k_is); (case ai_TooShort => k_is); (case ti_TooShort => k_is); (case li_TooShort => k_is); (case ci_TooShort => k_is); (case ki_TooShort => k_is); (case kC_TooShort => k_is); (case eC_TooShort => k_is); (case tC_TooShort => k_is); (case hC_TooShort => k_is); (case hc_TooShort => k_is); (case hm_TooShort => k_is); (case te_TooShort => kts_exm); (case qq0_TooShort => kit_is); (case qq1_TooShort => kit_is); (case own => exact own)
