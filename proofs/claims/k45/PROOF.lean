import PyProof.Rows.All
import HandS.ForMost
import HandS.TupAny
import HandS.TupMul
import HandS.Exc
import HandS.ExcOwn
import HandS.TryOnly
import HandS.TryMany
import HandS.CallSlots
import HandS.WordsExc
import PyProof.Rows.SeqMore
import HandS.Wide
import HandS.TupLe
import HandS.Deep
import HandS.Style
import HandS.Flow
import HandS.IsInst
import HandS.Conv
import HandS.Zip
import HandS.Walk
import HandS.Defaults
import HandS.HeadHook4
import HandS.HeadEnd
import KE.GoesEnum
import KE.GoesMore
import HandS.EndBits
import HandS.SetFor
import KE.KTupSum
import HandS.SortOrd
import HandS.SortInts
import KE.DataMinMax
import KE.DataCmp
import HandS.Dict
import HandS.Strs
import PySem.Challenge.RW_fairloaves_k45_better_worse_and_middle_c
import KE.KStateDown
import Lean
import HandS.Head0
import HandS.Head1
import HandS.Head2
set_option Elab.async false
set_option linter.all false
set_option maxRecDepth 100000
set_option maxHeartbeats 4000000
/-! New tuples, known to the object: they have no dict. -/
namespace Q
open PySem PySem.Spec PyProof.Rows L2
/-- a tuple of which the object is known -/
abbrev TF (o : Obj) (xs : List V) : HO := .frz o (.tup xs)
/-- the sequel at a new tuple -/
abbrev NewT (H : Hp) (xs : List V) (Q : VK) : Prop := ∀ p o, H p = none → o.dict = none → Q (.ref p) (upd H p (TF o xs))
section
variable {X : Cx} {es : List Expr} {t : TA} {pos : Pos}
theorem tf_ok {P : Program} {w : World} {H : Hp} {hh : Heap} {xs : List V} {jts : List Value} (r : Vals xs jts) (z : xs.length ≤ sizeLine) : ObjOk P w H (hh.push { cls := .type "tuple", data := .seq jts.toArray }) hh.objs.size (TF { cls := .type "tuple", data := .seq jts.toArray } xs) :=
  ⟨Heap.get?_push_size _ rfl, z, jts, r, IsTup.new _ _⟩
def tTupX (t : TA) : TE := fun σ H Q => t σ H fun xs H1 => xs.length ≤ sizeLine ∧ NewT H1 xs Q
theorem pe_tupX {x1} (h : PA X es t) : PE X (.Tuple es x1 pos) (tTupX t) := ⟨fun pins st σ HH QQ Inn hq => by
  refine wpAny_Tuple_spliced (thn (h.run pos pins st σ HH _ Inn hq) fun us s1 ⟨xs, H1, I1, r, z, q⟩ => ⟨by rw [← r.length]; exact z, ?_⟩)
  have fresh := I1.hok.fresh (Nat.le_refl _)
  have ok := I1.laid (t' := s1.toks) (fun b u e => Heap.get?_push_of_some _ e) (Nat.le_refl _) (tf_ok r z)
  exact ⟨.ref s1.heap.objs.size, _, ok, rfl, q _ _ fresh rfl⟩⟩
def rCatX (K : PySem.W.Frag) : R2 := fun x y H Q => ∃ a b xs ys, x = .ref a ∧ y = .ref b ∧ SqT K H a xs ∧ SqT K H b ys ∧ xs.length + ys.length ≤ sizeLine ∧
  (xs = [] → Q (.ref b) H) ∧ (xs ≠ [] → ys = [] → Q (.ref a) H) ∧ (xs ≠ [] → ys ≠ [] → NewT H (xs ++ ys) Q)
theorem op_catX : OpR X (binaryOp .Add) (rCatX X.K) := by
  intro pins st σ HH x y v u QQ Inn rx ry h
  obtain ⟨a, b, xs, ys, rfl, rfl, ha, hb, hz, q0, q1, q2⟩ := h
  by_cases hx : xs = []
  · subst hx
    cases rx
    cases ry
    obtain ⟨jts, r1, p1, _⟩ := Inn.tuple ha
    obtain ⟨jts2, r2, p2, _⟩ := Inn.tuple hb
    cases r1
    exact cat_tup0 p1 p2 ⟨.ref b, HH, Inn, rfl, q0 rfl⟩
  · cases rx
    cases ry
    obtain ⟨jts, r1, p1, _⟩ := Inn.tuple ha
    obtain ⟨jts2, r2, p2, _⟩ := Inn.tuple hb
    refine HT.cat_tup p1 p2 (fun z => hx (r1.nil_iff.mp z)) (fun z => ⟨.ref a, HH, Inn, rfl, q1 hx (r2.nil_iff.mp z)⟩) (fun z => ?_) (by rw [← r1.length, ← r2.length]; exact hz)
    have ok := Inn.laid (t' := st.toks) (fun b ob q => Heap.get?_push_of_some _ q) (Nat.le_refl _) (tf_ok (r1.append r2) (by rw [List.length_append]; exact hz))
    exact ⟨.ref st.heap.objs.size, _, ok, rfl, q2 hx (fun w => z (r2.nil_iff.mpr w)) _ _ (Inn.hok.fresh (Nat.le_refl _)) rfl⟩
def rSlX (K : PySem.W.Frag) : V → Option Int → Option Int → Hp → VK → Prop := fun x lo hi H Q => ∃ a xs, x = .ref a ∧ SqT K H a xs ∧
  (HT.sIx xs.length 0 lo = 0 ∧ HT.sIx xs.length xs.length hi = xs.length → Q (.ref a) H) ∧ (¬ (HT.sIx xs.length 0 lo = 0 ∧ HT.sIx xs.length xs.length hi = xs.length) → NewT H (cutV xs lo hi) Q)
theorem sl_tupX : SlR X (rSlX X.K) := by
  intro pins st σ HH x v vl vu lo hi sl QQ Inn rx hs pl pu h
  obtain ⟨a, xs, rfl, hx, q1, q2⟩ := h
  cases rx
  obtain ⟨jts, r, ht, hz⟩ := Inn.tuple hx
  have hlen : jts.toArray.size = xs.length := by rw [List.size_toArray]; exact r.length.symm
  by_cases hw : HT.sIx xs.length 0 lo = 0 ∧ HT.sIx xs.length xs.length hi = xs.length
  · refine ⟨"tuple", _, PyProof.Rows.slot_tuple_getitem.lookup, ht.typeIs, ?_⟩
    exact getItem_tuple_whole ht hs pl pu (by rw [hlen]; exact hw) ⟨.ref a, HH, Inn, rfl, q1 hw⟩
  · refine ⟨"tuple", _, PyProof.Rows.slot_tuple_getitem.lookup, ht.typeIs, ?_⟩
    refine HT.getItem_tuple_cut ht hs pl pu (by rw [hlen]; exact hw) ?_ (by rw [hlen]; exact hz)
    rw [hlen]
    have ok := Inn.laid (t' := st.toks) (fun b ob q => Heap.get?_push_of_some _ q) (Nat.le_refl _) (tf_ok ((r.drop (HT.sIx xs.length 0 lo)).take (HT.sIx xs.length xs.length hi - HT.sIx xs.length 0 lo)) (Nat.le_trans (cutV_length xs lo hi) hz))
    exact ⟨.ref st.heap.objs.size, _, ok, rfl, q2 hw _ _ (Inn.hok.fresh (Nat.le_refl _)) rfl⟩
theorem call_tupX : CallR X (.type "tuple") (fun xs H Q => ∃ p ys, xs = [.ref p] ∧ ((SqL X.K H p ys ∧ NewT H ys Q) ∨ (SqT X.K H p ys ∧ Q (.ref p) H))) := by
  intro pins st σ HH xs us QQ Inn r h
  obtain ⟨p, ys, rfl, h⟩ := h
  obtain ⟨u, rfl, rx⟩ := vals1 r
  cases rx
  rcases h with ⟨hq, q⟩ | ⟨hq, q⟩
  · obtain ⟨jts, r', pl, hz⟩ := Inn.list hq
    have hlen := r'.length
    refine call_tuple_list pl.isList (fun h' kp => ?_) (by simp only [List.size_toArray] <;> omega)
    have I1 : Inv X pins σ HH { st with heap := h' } := Inn.kept (t' := st.toks) kp
    have ok := I1.laid (t' := st.toks) (fun b o e => Heap.get?_push_of_some _ e) (Nat.le_refl _) (tf_ok r' hz)
    exact ⟨.ref h'.objs.size, _, ok, rfl, q _ _ (I1.hok.fresh (Nat.le_refl _)) rfl⟩
  · obtain ⟨jts, r', pl, hz⟩ := Inn.tuple hq
    exact call_tuple_same pl ⟨.ref p, HH, Inn, rfl, q⟩
def rRepX (K : PySem.W.Frag) : R2 := fun x y H Q => ∃ l k xs, x = .ref l ∧ y = .int k ∧ SqT K H l xs ∧ xs ≠ [] ∧ 2 ≤ k ∧ k ≤ 1000 ∧ xs.length ≤ 1000 ∧ NewT H (List.replicate k.toNat xs).flatten Q
theorem op_repX : OpR X (binaryOp .Mult) (rRepX X.K) := by
  intro pins st σ HH x y v u QQ Inn rx ry h
  obtain ⟨l, k, xs, rfl, rfl, hT, hne, h1, h2, hz, q⟩ := h
  cases rx
  obtain ⟨t, rfl⟩ := ry
  obtain ⟨jts, r, ⟨⟨cls, dd, data, sl⟩, ho, hc, n, hd⟩, hs⟩ := Inn.tuple hT
  simp only at hc hd
  subst hc hd
  have hle : jts.length = xs.length := r.length.symm
  have hi : jts.toArray.isEmpty = false := by
    cases jts with
    | nil => exact absurd (List.eq_nil_of_length_eq_zero hle.symm) hne
    | cons a b => rfl
  have le6 : k.toNat * xs.length ≤ 1000 * 1000 := Nat.mul_le_mul (by omega) hz
  have flen : (List.replicate k.toNat jts).flatten.length ≤ sizeLine := by
    rw [PyProof.Rows.lm_len_rep_flat, hle, sizeLine_eq]
    omega
  have hm : ((jts.toArray.size : Nat) : Int) * k ≤ 1000000 := by
    rw [List.size_toArray, hle]
    have a1 : ((xs.length : Nat) : Int) * k ≤ 1000 * k := Int.mul_le_mul_of_nonneg_right (by omega) (by omega)
    omega
  have cA : (decide (k < -(2 ^ 63)) || decide (k ≥ 2 ^ 63)) = false := by
    rw [decide_eq_false (by omega), decide_eq_false (by omega)] <;> rfl
  have cB1 : (jts.toArray.isEmpty || k == 1) = false := by
    rw [hi, Bool.false_or]
    exact beq_eq_false_iff_ne.mpr (by omega)
  have cC : (decide (k ≤ 0) || jts.toArray.isEmpty) = false := by
    rw [hi, Bool.or_false]
    exact decide_eq_false (by omega)
  have cD : Builtin.Tuple.tupleTooMany (((jts.toArray.size : Nat) : Int) * k) = false := by
    unfold Builtin.Tuple.tupleTooMany
    rw [sizeLine_eq]
    exact decide_eq_false (by omega)
  refine wpAny_binaryOp_repeat_ref (T := "tuple") (U := "int") (by decide) ⟨_, ho, rfl⟩ (fun s' => typeIs_int s' k t) L2.noFill_tuple_mul F.fills_int_mul F.slot_int_rmul L2.repeat_tuple F.slot_int_index.lookup
    (call_meets F.slot_int_rmul (typeIs_int st k t) F.entry_int_rmul (F.args_int_rmul_2 _ _) (L2.int_rmul_tuple k t l jts.toArray n dd sl)
      ⟨ho, rfl, ⟨_, ho, rfl⟩, call_meets F.slot_tuple_mul ⟨_, ho, rfl⟩ F.entry_tuple_mul (F.args_tuple_mul_2 _ _) (L2.tuple_mulW l jts.toArray n dd sl k t cA cB1 cC (by omega) cD (by rw [L2.size_rep, List.size_toArray]; exact flen)) ⟨ho, ?_⟩⟩)
  rw [L2.size_rep]
  have ok := Inn.laid (t' := st.toks) (fun b ob q => Heap.get?_push_of_some _ q) (Nat.le_refl _) (tf_ok (r.rep k.toNat) (by rw [PyProof.Rows.lm_len_rep_flat, sizeLine_eq]; omega))
  exact ⟨.ref st.heap.objs.size, _, ok, rfl, q _ _ (Inn.hok.fresh (Nat.le_refl _)) rfl⟩
end
end Q

set_option Elab.async false
set_option linter.all false
set_option maxRecDepth 100000
set_option maxHeartbeats 4000000
/-! Values by what they say: frozen data, owned trees of lists and dicts. -/
namespace Q
open PySem PySem.Spec PyProof.Rows L2

/-- an owned tree: lists and dicts that only one name holds; fz: data that nobody changes any more -/
inductive M where
  | fz (d : PyData)
  | lst (xs : List M)
  | tup (xs : List M)
  | dK (ks : List Key) (ms : List M)
  | dT (ks : List (List Key)) (ms : List M)

/-- a tuple at a, known to have no dict -/
def SqN (K : PySem.W.Frag) (H : Hp) (a : Addr) (xs : List V) : Prop :=
  (∃ o, H a = some (TF o xs) ∧ o.dict = none) ∨ ∃ (o : Obj) (its : Array Value) (n : Nat), K.lookup a = some o ∧ o.cls = .type "tuple" ∧ o.data = .seq its n ∧ its.size ≤ sizeLine ∧ Vals xs its.toList ∧ o.dict = none
theorem SqN.t {K : PySem.W.Frag} {H : Hp} {a : Addr} {xs : List V} (h : SqN K H a xs) : SqT K H a xs := by
  rcases h with ⟨o, h, _⟩ | ⟨o, its, n, h1, h2, h3, h4, h5, _⟩
  · exact .inl (.inr ⟨o, h⟩)
  · exact .inr ⟨o, its, n, h1, h2, h3, h4, h5⟩
mutual
/-- frozen data at a value; G: where its lists may stand -/
inductive RF (K : PySem.W.Frag) (H : Hp) (G : Addr → Prop) : V → PyData → Prop
  | non : RF K H G .non .none
  | bl (b : Bool) : RF K H G (.bl b) (.bool b)
  | int (i : Int) : RF K H G (.int i) (.int i)
  | str (x : Str) : RF K H G (.str x) (.str x)
  | lst {a : Addr} {xs : List V} {ds : List PyData} : L2.Rd H a (.lst xs) → G a → RFs K H G xs ds → RF K H G (.ref a) (.list ds)
  | tup {a : Addr} {xs : List V} {ds : List PyData} : SqN K H a xs → RFs K H G xs ds → RF K H G (.ref a) (.tuple ds)
inductive RFs (K : PySem.W.Frag) (H : Hp) (G : Addr → Prop) : List V → List PyData → Prop
  | nil : RFs K H G [] []
  | cons {v : V} {vs : List V} {d : PyData} {ds : List PyData} : RF K H G v d → RFs K H G vs ds → RFs K H G (v :: vs) (d :: ds)
end

mutual
/-- an owned tree at a value; F: the addresses of its lists and dicts -/
inductive RM (K : PySem.W.Frag) (H : Hp) (G : Addr → Prop) : V → M → List Addr → Prop
  | fz {v : V} {d : PyData} : RF K H G v d → RM K H G v (.fz d) []
  | lst {a : Addr} {xs : List V} {ms : List M} {F : List Addr} : H a = some (.lst xs) → RMs K H G xs ms F → RM K H G (.ref a) (.lst ms) (a :: F)
  | tup {a : Addr} {xs : List V} {ms : List M} {F : List Addr} : SqN K H a xs → RMs K H G xs ms F → RM K H G (.ref a) (.tup ms) F
  | dK {a : Addr} {kvs : List (Key × V)} {ms : List M} {F : List Addr} : H a = some (.dK kvs) → RMs K H G (kvs.map (·.2)) ms F → RM K H G (.ref a) (.dK (kvs.map (·.1)) ms) (a :: F)
  | dT {a : Addr} {kvs : List (List Key × V)} {ms : List M} {F : List Addr} : H a = some (.dT kvs) → RMs K H G (kvs.map (·.2)) ms F → RM K H G (.ref a) (.dT (kvs.map (·.1)) ms) (a :: F)
inductive RMs (K : PySem.W.Frag) (H : Hp) (G : Addr → Prop) : List V → List M → List Addr → Prop
  | nil : RMs K H G [] [] []
  | cons {v : V} {vs : List V} {m : M} {ms : List M} {F F' : List Addr} : RM K H G v m F → RMs K H G vs ms F' → RMs K H G (v :: vs) (m :: ms) (F ++ F')
end

/-- no tuple and no locked thing is owned -/
def OM (H : Hp) (O : List Addr) : Prop := ∀ a ∈ O, (∀ xs, H a ≠ some (.tup xs)) ∧ ∀ o u, H a ≠ some (.frz o u)
section
variable {K : PySem.W.Frag} {H H' : Hp} {G G' : Addr → Prop} {O : List Addr}
theorem rd_keep {a : Addr} {u : HO} (h : L2.Rd H a u) (fr : ∀ o, H a = some o → H' a = some o) : L2.Rd H' a u := by
  rcases h with h | ⟨o, h⟩
  · exact .inl (fr _ h)
  · exact .inr ⟨o, fr _ h⟩
theorem sqt_keep {a : Addr} {xs : List V} (h : SqT K H a xs) (om : OM H O) (fr : ∀ a o, a ∉ O → H a = some o → H' a = some o) : SqT K H' a xs := by
  rcases h with h | h
  · refine .inl (rd_keep h fun o e => fr a o (fun ha => ?_) e)
    rcases h with h | ⟨o, h⟩
    · exact (om a ha).1 _ h
    · exact (om a ha).2 _ _ h
  · exact .inr h
theorem sqn_keep {a : Addr} {xs : List V} (h : SqN K H a xs) (om : OM H O) (fr : ∀ a o, a ∉ O → H a = some o → H' a = some o) : SqN K H' a xs := by
  rcases h with ⟨o, h, hd⟩ | h
  · exact .inl ⟨o, fr a _ (fun ha => (om a ha).2 _ _ h) h, hd⟩
  · exact .inr h
theorem rd_some {a : Addr} {u : HO} (h : L2.Rd H a u) : ∃ o, H a = some o := by
  rcases h with h | ⟨o, h⟩
  · exact ⟨_, h⟩
  · exact ⟨_, h⟩
mutual
theorem RF.step : ∀ {v : V} {d : PyData}, RF K H G v d → OM H O → (∀ a, G a → a ∉ O) → (∀ a o, a ∉ O → H a = some o → H' a = some o) → (∀ a o, G a → H a = some o → G' a) → RF K H' G' v d
  | _, _, .non, _, _, _, _ => .non
  | _, _, .bl b, _, _, _, _ => .bl b
  | _, _, .int i, _, _, _, _ => .int i
  | _, _, .str x, _, _, _, _ => .str x
  | _, _, .lst h g r, om, go, fr, gg => by
    obtain ⟨o, e⟩ := rd_some h
    exact .lst (rd_keep h fun o e => fr _ o (go _ g) e) (gg _ _ g e) (RFs.step r om go fr gg)
  | _, _, .tup h r, om, go, fr, gg => .tup (sqn_keep h om fr) (RFs.step r om go fr gg)
theorem RFs.step : ∀ {vs : List V} {ds : List PyData}, RFs K H G vs ds → OM H O → (∀ a, G a → a ∉ O) → (∀ a o, a ∉ O → H a = some o → H' a = some o) → (∀ a o, G a → H a = some o → G' a) → RFs K H' G' vs ds
  | _, _, .nil, _, _, _, _ => .nil
  | _, _, .cons h r, om, go, fr, gg => .cons (RF.step h om go fr gg) (RFs.step r om go fr gg)
end
mutual
theorem RM.step : ∀ {v : V} {m : M} {F : List Addr}, RM K H G v m F → OM H O → (∀ a, G a → a ∉ O) → (∀ a ∈ F, a ∉ O) → (∀ a o, a ∉ O → H a = some o → H' a = some o) → (∀ a o, G a → H a = some o → G' a) → RM K H' G' v m F
  | _, _, _, .fz h, om, go, _, fr, gg => .fz (h.step om go fr gg)
  | _, _, _, .lst h r, om, go, fo, fr, gg => .lst (fr _ _ (fo _ List.mem_cons_self) h) (RMs.step r om go (fun a ha => fo a (List.mem_cons_of_mem _ ha)) fr gg)
  | _, _, _, .tup h r, om, go, fo, fr, gg => .tup (sqn_keep h om fr) (RMs.step r om go fo fr gg)
  | _, _, _, .dK h r, om, go, fo, fr, gg => .dK (fr _ _ (fo _ List.mem_cons_self) h) (RMs.step r om go (fun a ha => fo a (List.mem_cons_of_mem _ ha)) fr gg)
  | _, _, _, .dT h r, om, go, fo, fr, gg => .dT (fr _ _ (fo _ List.mem_cons_self) h) (RMs.step r om go (fun a ha => fo a (List.mem_cons_of_mem _ ha)) fr gg)
theorem RMs.step : ∀ {vs : List V} {ms : List M} {F : List Addr}, RMs K H G vs ms F → OM H O → (∀ a, G a → a ∉ O) → (∀ a ∈ F, a ∉ O) → (∀ a o, a ∉ O → H a = some o → H' a = some o) → (∀ a o, G a → H a = some o → G' a) → RMs K H' G' vs ms F
  | _, _, _, .nil, _, _, _, _, _ => .nil
  | _, _, _, .cons h r, om, go, fo, fr, gg => .cons (RM.step h om go (fun a ha => fo a (List.mem_append_left _ ha)) fr gg) (RMs.step r om go (fun a ha => fo a (List.mem_append_right _ ha)) fr gg)
end
/-- what is owned is a list or a dict -/
def Owd : HO → Prop
  | .lst _ => True | .dK _ => True | .dT _ => True | _ => False
mutual
theorem RM.owd : ∀ {v : V} {m : M} {F : List Addr}, RM K H G v m F → ∀ a ∈ F, ∃ o, H a = some o ∧ Owd o
  | _, _, _, .fz _, _, ha => nomatch ha
  | _, _, _, .lst h r, a, ha => by
    rcases List.mem_cons.mp ha with e | ha
    · subst e; exact ⟨_, h, trivial⟩
    · exact RMs.owd r a ha
  | _, _, _, .tup h r, a, ha => RMs.owd r a ha
  | _, _, _, .dK h r, a, ha => by
    rcases List.mem_cons.mp ha with e | ha
    · subst e; exact ⟨_, h, trivial⟩
    · exact RMs.owd r a ha
  | _, _, _, .dT h r, a, ha => by
    rcases List.mem_cons.mp ha with e | ha
    · subst e; exact ⟨_, h, trivial⟩
    · exact RMs.owd r a ha
theorem RMs.owd : ∀ {vs : List V} {ms : List M} {F : List Addr}, RMs K H G vs ms F → ∀ a ∈ F, ∃ o, H a = some o ∧ Owd o
  | _, _, _, .nil, _, ha => nomatch ha
  | _, _, _, .cons h r, a, ha => by
    rcases List.mem_append.mp ha with ha | ha
    · exact RM.owd h a ha
    · exact RMs.owd r a ha
end
theorem OM.of {O : List Addr} (h : ∀ a ∈ O, ∃ o, H a = some o ∧ Owd o) : OM H O := fun a ha => by
  obtain ⟨o, e, w⟩ := h a ha
  refine ⟨fun xs z => ?_, fun o' u z => ?_⟩
  · rw [e] at z; cases z; exact w
  · rw [e] at z; cases z; exact w
theorem RFs.length : ∀ {vs : List V} {ds : List PyData}, RFs K H G vs ds → vs.length = ds.length
  | _, _, .nil => rfl
  | _, _, .cons _ r => by simp [RFs.length r]
theorem RMs.length : ∀ {vs : List V} {ms : List M} {F : List Addr}, RMs K H G vs ms F → vs.length = ms.length
  | _, _, _, .nil => rfl
  | _, _, _, .cons _ r => by simp [RMs.length r]
theorem RFs.get : ∀ {vs : List V} {ds : List PyData} {i : Nat} {d : PyData}, RFs K H G vs ds → ds[i]? = some d → ∃ v, vs[i]? = some v ∧ RF K H G v d
  | _, _, 0, _, .cons h _, e => by simp at e; subst e; exact ⟨_, rfl, h⟩
  | _, _, i + 1, _, .cons _ r, e => by
    obtain ⟨v, h1, h2⟩ := RFs.get (i := i) r (by simpa using e)
    exact ⟨v, by simpa using h1, h2⟩
theorem RMs.get : ∀ {vs : List V} {ms : List M} {F : List Addr} {i : Nat} {m : M}, RMs K H G vs ms F → ms[i]? = some m → ∃ v F', vs[i]? = some v ∧ RM K H G v m F' ∧ F'.Sublist F
  | _, _, _, 0, _, .cons h _, e => by simp at e; subst e; exact ⟨_, _, rfl, h, List.sublist_append_left _ _⟩
  | _, _, _, i + 1, _, .cons _ r, e => by
    obtain ⟨v, F', h1, h2, h3⟩ := RMs.get (i := i) r (by simpa using e)
    exact ⟨v, F', by simpa using h1, h2, h3.trans (List.sublist_append_right _ _)⟩

/-! ### freezing -/
mutual
def frz : M → Option PyData
  | .fz d => some d
  | .lst xs => (frzs xs).map .list
  | .tup xs => (frzs xs).map .tuple
  | .dK _ _ => none
  | .dT _ _ => none
def frzs : List M → Option (List PyData)
  | [] => some []
  | m :: ms => (frz m).bind fun d => (frzs ms).map fun ds => d :: ds
end
mutual
theorem RM.freeze : ∀ {v : V} {m : M} {F : List Addr} {d : PyData}, RM K H G v m F → frz m = some d → (∀ a, G a → G' a) → (∀ a ∈ F, G' a) → RF K H G' v d
  | _, _, _, d, .fz h, e, gg, _ => by
    unfold frz at e; cases e
    exact h.step (O := []) (fun _ z => nomatch z) (fun _ _ z => nomatch z) (fun _ _ _ z => z) fun a _ g _ => gg a g
  | _, _, _, d, .lst h r, e, gg, fg => by
    unfold frz at e
    obtain ⟨ds, e1, rfl⟩ := Option.map_eq_some_iff.mp e
    exact .lst (.inl h) (fg _ List.mem_cons_self) (RMs.freeze r e1 gg fun a ha => fg a (List.mem_cons_of_mem _ ha))
  | _, _, _, d, .tup h r, e, gg, fg => by
    unfold frz at e
    obtain ⟨ds, e1, rfl⟩ := Option.map_eq_some_iff.mp e
    exact .tup h (RMs.freeze r e1 gg fg)
  | _, _, _, d, .dK h r, e, gg, fg => by unfold frz at e; cases e
  | _, _, _, d, .dT h r, e, gg, fg => by unfold frz at e; cases e
theorem RMs.freeze : ∀ {vs : List V} {ms : List M} {F : List Addr} {ds : List PyData}, RMs K H G vs ms F → frzs ms = some ds → (∀ a, G a → G' a) → (∀ a ∈ F, G' a) → RFs K H G' vs ds
  | _, _, _, ds, .nil, e, _, _ => by unfold frzs at e; cases e; exact .nil
  | _, _, _, ds, .cons h r, e, gg, fg => by
    unfold frzs at e
    obtain ⟨d, e1, e2⟩ := Option.bind_eq_some_iff.mp e
    obtain ⟨ds', e3, rfl⟩ := Option.map_eq_some_iff.mp e2
    exact .cons (RM.freeze h e1 gg fun a ha => fg a (List.mem_append_left _ ha)) (RMs.freeze r e3 gg fun a ha => fg a (List.mem_append_right _ ha))
end
end
end Q

set_option Elab.async false
set_option linter.all false
set_option maxRecDepth 100000
set_option maxHeartbeats 4000000
/-! The slots of a frame, what an evaluation leaves. -/
namespace Q
open PySem PySem.Spec PyProof.Rows L2

abbrev Ev := List (Option M)
/-- the slots: env by the values σ; Fs: what each one owns -/
inductive Slots (K : PySem.W.Frag) (H : Hp) (G : Addr → Prop) : Ev → L2.St → List (List Addr) → Prop
  | nil : Slots K H G [] [] []
  | non {x : Option V} {env : Ev} {σ : L2.St} {Fs : List (List Addr)} : Slots K H G env σ Fs → Slots K H G (none :: env) (x :: σ) ([] :: Fs)
  | som {m : M} {v : V} {F : List Addr} {env : Ev} {σ : L2.St} {Fs : List (List Addr)} : RM K H G v m F → Slots K H G env σ Fs → Slots K H G (some m :: env) (some v :: σ) (F :: Fs)

structure SI (K : PySem.W.Frag) (Z : Addr → Prop) (O : List Addr) (env : Ev) (σ : L2.St) (H : Hp) : Prop where
  sl : ∃ Fs, Slots K H (fun a => ¬ Z a ∧ a ∉ O) env σ Fs ∧ Fs.flatten = O
  nd : O.Nodup
  nz : ∀ a ∈ O, ¬ Z a
  zt : ∀ a, Z a → ∃ o, H a = some o

abbrev Zp (Z : Addr → Prop) (F : List Addr) : Addr → Prop := fun a => Z a ∨ a ∈ F
theorem Zp_nil (Z : Addr → Prop) : Zp Z [] = Z := by
  funext a; unfold Zp; simp

inductive Val where
  | own (m : M)
  | vw (m : M)
def Val.isV : Val → Bool
  | .own _ => false
  | .vw _ => true
def Val.m : Val → M
  | .own m => m
  | .vw m => m
/-- p: nothing made, nothing changed; q: things made; l: things changed -/
inductive Ql where
  | p | q | l
def Ql.j : Ql → Ql → Ql
  | .p, y => y
  | .q, .l => .l
  | .q, _ => .q
  | .l, _ => .l
structure Exn where
  cls : Str
  fs : List (Str × PyData)
inductive Res where
  | ok (x : Val) (env : Ev) (q : Ql)
  | exn (c : Exn) (env : Ev)
  | stuck
inductive ResL where
  | ok (xs : List Val) (env : Ev) (q : Ql)
  | exn (c : Exn) (env : Ev)
  | stuck

/-- values with their owned trees; the views' lists lie in Gv -/
inductive RVs (K : PySem.W.Frag) (H : Hp) (G Gv : Addr → Prop) : List V → List Val → List Addr → Prop
  | nil : RVs K H G Gv [] [] []
  | own {v : V} {m : M} {F F' : List Addr} {vs : List V} {xs : List Val} : RM K H G v m F → RVs K H G Gv vs xs F' → RVs K H G Gv (v :: vs) (.own m :: xs) (F ++ F')
  | vw {v : V} {m : M} {F F' : List Addr} {vs : List V} {xs : List Val} : RM K H G v m F → (∀ a ∈ F, Gv a) → RVs K H G Gv vs xs F' → RVs K H G Gv (v :: vs) (.vw m :: xs) F'

structure Step (O : List Addr) (H : Hp) (O' F : List Addr) (H' : Hp) : Prop where
  keep : ∀ a o, a ∉ O → H a = some o → H' a = some o ∧ a ∉ O' ∧ a ∉ F
def Quiet (H H' : Hp) : Prop := ∀ a o, H a = some o → H' a = some o

/-- behind a row of expressions; O' is what the slots own, F what the values own -/
abbrev PostAt (K : PySem.W.Frag) (Z : Addr → Prop) (O : List Addr) (env : Ev) (σ : L2.St) (H : Hp) (vs : List V) (H' : Hp) (xs : List Val) (env' : Ev) (q : Ql) (O' F : List Addr) : Prop :=
  SI K (Zp Z F) O' env' σ H' ∧ RVs K H' (fun a => ¬ Z a ∧ a ∉ O' ∧ a ∉ F) (fun a => ¬ Z a) vs xs F ∧ F.Nodup ∧ (∀ a ∈ F, ¬ Z a) ∧ Step O H O' F H' ∧ (q ≠ .l → Quiet H H') ∧ (q = .p → H' = H ∧ env' = env ∧ F = [])
structure PostL (K : PySem.W.Frag) (Z : Addr → Prop) (O : List Addr) (env : Ev) (σ : L2.St) (H : Hp) (vs : List V) (H' : Hp) (xs : List Val) (env' : Ev) (q : Ql) : Prop where
  ex : ∃ O' F, PostAt K Z O env σ H vs H' xs env' q O' F
abbrev Post (K : PySem.W.Frag) (Z : Addr → Prop) (O : List Addr) (env : Ev) (σ : L2.St) (H : Hp) (v : V) (H' : Hp) (x : Val) (env' : Ev) (q : Ql) : Prop := PostL K Z O env σ H [v] H' [x] env' q
/-- an exception told -/
structure ExnR (K : PySem.W.Frag) (mg : Str → Option Value) (H : Hp) (c : Exn) (cls : Value) (d : Option Addr) : Prop where
  cls : ∃ C, cls = .ref C ∧ mg c.cls = some (.ref C)
  fs : (c.fs = [] ∧ d = none) ∨ ∃ dd vs, d = some dd ∧ H dd = some (.xd ((c.fs.map (·.1)).zip vs)) ∧ RFs K H (fun _ => False) vs (c.fs.map (·.2))
structure PostX (K : PySem.W.Frag) (mg : Str → Option Value) (Z : Addr → Prop) (O : List Addr) (σ : L2.St) (H : Hp) (cls : Value) (d : Option Addr) (H' : Hp) (c : Exn) (env' : Ev) : Prop where
  ex : ∃ O', SI K Z O' env' σ H' ∧ Step O H O' [] H'
  er : ExnR K mg H' c cls d

def TU (K : PySem.W.Frag) (mg : Str → Option Value) (W : WX) (den : Ev → Res) : TE := fun σ H Q => ∃ Z O env, SI K Z O env σ H ∧
  match den env with
  | .ok x env' q => ∀ v H', Post K Z O env σ H v H' x env' q → Q v H'
  | .exn c env' => ∀ cls d H', PostX K mg Z O σ H cls d H' c env' → W cls d σ H'
  | .stuck => False
def TUL (K : PySem.W.Frag) (mg : Str → Option Value) (W : WX) (den : Ev → ResL) : TA := fun σ H Q => ∃ Z O env, SI K Z O env σ H ∧
  match den env with
  | .ok xs env' q => ∀ vs H', PostL K Z O env σ H vs H' xs env' q → Q vs H'
  | .exn c env' => ∀ cls d H', PostX K mg Z O σ H cls d H' c env' → W cls d σ H'
  | .stuck => False

def evs : List (Ev → Res) → Ev → ResL
  | [], env => .ok [] env .p
  | f :: fs, env => match f env with
    | .ok x env1 q1 => (match evs fs env1 with
      | .ok xs env2 q2 => (match x, q2 with
        | .vw _, .l => .stuck
        | _, _ => .ok (x :: xs) env2 (q1.j q2))
      | .exn c env2 => .exn c env2
      | .stuck => .stuck)
    | .exn c env1 => .exn c env1
    | .stuck => .stuck

section
variable {K : PySem.W.Frag} {mg : Str → Option Value} {H H' H1 H2 : Hp} {G G' Gv Gv' : Addr → Prop} {O O1 O2 F F1 F2 : List Addr} {Z : Addr → Prop} {env env1 env2 : Ev} {σ : L2.St}
theorem Step.refl : Step O H O [] H := ⟨fun a o n e => ⟨e, n, fun z => nomatch z⟩⟩
theorem Step.trans (a : Step O H O1 F1 H1) (b : Step O1 H1 O2 F2 H2) : Step O H O2 (F1 ++ F2) H2 := ⟨fun x o n e => by
  obtain ⟨e1, n1, f1⟩ := a.keep x o n e
  obtain ⟨e2, n2, f2⟩ := b.keep x o n1 e1
  exact ⟨e2, n2, fun z => (List.mem_append.mp z).elim f1 f2⟩⟩
theorem Step.weak (a : Step O H O1 F1 H1) (h : ∀ x ∈ F2, x ∈ F1) : Step O H O1 F2 H1 := ⟨fun x o n e => by
  obtain ⟨e1, n1, f1⟩ := a.keep x o n e
  exact ⟨e1, n1, fun z => f1 (h x z)⟩⟩
theorem Slots.owd : ∀ {env : Ev} {σ : L2.St} {Fs : List (List Addr)}, Slots K H G env σ Fs → ∀ a ∈ Fs.flatten, ∃ o, H a = some o ∧ Owd o
  | _, _, _, .nil, a, ha => by simp at ha
  | _, _, _, .non r, a, ha => Slots.owd r a (by simpa using ha)
  | _, _, _, .som h r, a, ha => by
    rw [List.flatten_cons] at ha
    rcases List.mem_append.mp ha with ha | ha
    · exact h.owd a ha
    · exact Slots.owd r a ha
theorem SI.owd (I : SI K Z O env σ H) : ∀ a ∈ O, ∃ o, H a = some o ∧ Owd o := by
  obtain ⟨Fs, s, e⟩ := I.sl
  rw [← e]
  exact s.owd
theorem SI.om (I : SI K Z O env σ H) : OM H O := OM.of I.owd
theorem RM.imp {v : V} {m : M} (r : RM K H G v m F) (gg : ∀ a, G a → G' a) : RM K H G' v m F :=
  r.step (O := []) (fun _ z => nomatch z) (fun _ _ z => nomatch z) (fun _ _ z => nomatch z) (fun _ _ _ z => z) fun a _ g _ => gg a g
theorem RF.imp {v : V} {d : PyData} (r : RF K H G v d) (gg : ∀ a, G a → G' a) : RF K H G' v d :=
  r.step (O := []) (fun _ z => nomatch z) (fun _ _ z => nomatch z) (fun _ _ _ z => z) fun a _ g _ => gg a g
theorem RFs.imp {vs : List V} {ds : List PyData} (r : RFs K H G vs ds) (gg : ∀ a, G a → G' a) : RFs K H G' vs ds :=
  r.step (O := []) (fun _ z => nomatch z) (fun _ _ z => nomatch z) (fun _ _ _ z => z) fun a _ g _ => gg a g
theorem Slots.imp : ∀ {env : Ev} {σ : L2.St} {Fs : List (List Addr)}, Slots K H G env σ Fs → (∀ a, G a → G' a) → Slots K H G' env σ Fs
  | _, _, _, .nil, _ => .nil
  | _, _, _, .non r, g => .non (Slots.imp r g)
  | _, _, _, .som h r, g => .som (h.imp g) (Slots.imp r g)
theorem SI.weak {Z' : Addr → Prop} (I : SI K Z O env σ H) (h : ∀ a, Z' a → Z a) : SI K Z' O env σ H := by
  obtain ⟨Fs, s, e⟩ := I.sl
  exact ⟨⟨Fs, s.imp fun a ⟨x, y⟩ => ⟨fun z => x (h a z), y⟩, e⟩, I.nd, fun a ha z => I.nz a ha (h a z), fun a z => I.zt a (h a z)⟩
theorem RVs.imp : ∀ {vs : List V} {xs : List Val} {F : List Addr}, RVs K H G Gv vs xs F → (∀ a, G a → G' a) → (∀ a, Gv a → Gv' a) → RVs K H G' Gv' vs xs F
  | _, _, _, .nil, _, _ => .nil
  | _, _, _, .own h r, g, g' => .own (h.imp g) (RVs.imp r g g')
  | _, _, _, .vw h f r, g, g' => .vw (h.imp g) (fun a ha => g' a (f a ha)) (RVs.imp r g g')
theorem RVs.length : ∀ {vs : List V} {xs : List Val} {F : List Addr}, RVs K H G Gv vs xs F → vs.length = xs.length
  | _, _, _, .nil => rfl
  | _, _, _, .own _ r => by simp [RVs.length r]
  | _, _, _, .vw _ _ r => by simp [RVs.length r]

/-- one value, then the others -/
theorem PostL.cons {v : V} {x : Val} {q1 q2 : Ql} (p1 : Post K Z O env σ H v H1 x env1 q1) :
    ∃ O1 F1, SI K (Zp Z F1) O1 env1 σ H1 ∧ ∀ {vs : List V} {xs : List Val} {env2 : Ev} {H2 : Hp}, PostL K (Zp Z F1) O1 env1 σ H1 vs H2 xs env2 q2 → (x.isV = true → q2 ≠ .l) → PostL K Z O env σ H (v :: vs) H2 (x :: xs) env2 (q1.j q2) := by
  obtain ⟨O1, F1, I1, r1, nd1, nz1, st1, qu1, pp1⟩ := p1.ex
  refine ⟨O1, F1, I1, fun {vs xs env2 H2} p2 hv => ?_⟩
  obtain ⟨O2, F2, I2, r2, nd2, nz2, st2, qu2, pp2⟩ := p2.ex
  have om1 := I1.om
  have d12 : ∀ a ∈ F1, a ∉ F2 := fun a h1 h2 => nz2 a h2 (.inr h1)
  have I3 : SI K (Zp Z (F1 ++ F2)) O2 env2 σ H2 := I2.weak fun a z => by
    rcases z with z | z
    · exact .inl (.inl z)
    · rcases List.mem_append.mp z with z | z
      · exact .inl (.inr z)
      · exact .inr z
  have lo : ∀ {a}, a ∈ F1 → a ∉ O1 := fun {a} h z => I1.nz a z (.inr h)
  have lo2 : ∀ {a}, a ∈ F1 → a ∉ O2 := fun {a} h z => I2.nz a z (.inl (.inr h))
  -- what the first value says, behind the second evaluation
  have go : ∀ a, (¬ Z a ∧ a ∉ O1 ∧ a ∉ F1) → a ∉ O1 := fun a h => h.2.1
  have gg : ∀ a o, (¬ Z a ∧ a ∉ O1 ∧ a ∉ F1) → H1 a = some o → (¬ Z a ∧ a ∉ O2 ∧ a ∉ F1 ++ F2) := fun a o h e => by
    obtain ⟨_, n2, n3⟩ := st2.keep a o h.2.1 e
    exact ⟨h.1, n2, fun z => (List.mem_append.mp z).elim h.2.2 n3⟩
  have rr2 : RVs K H2 (fun a => ¬ Z a ∧ a ∉ O2 ∧ a ∉ F1 ++ F2) (fun a => ¬ Z a) vs xs F2 := r2.imp (fun a h => ⟨fun z => h.1 (.inl z), h.2.1, fun z => (List.mem_append.mp z).elim (fun z => h.1 (.inr z)) h.2.2⟩) fun a h z => h (.inl z)
  have pp : q1.j q2 = .p → H2 = H ∧ env2 = env ∧ F1 ++ F2 = [] := fun e => by
    have e1 : q1 = .p ∧ q2 = .p := by cases q1 <;> cases q2 <;> simp [Ql.j] at e ⊢
    obtain ⟨a1, a2, a3⟩ := pp1 e1.1
    obtain ⟨b1, b2, b3⟩ := pp2 e1.2
    exact ⟨b1.trans a1, b2.trans a2, by rw [a3, b3]; rfl⟩
  have qq : q1.j q2 ≠ .l → Quiet H H2 := fun e => by
    have e1 : q1 ≠ .l ∧ q2 ≠ .l := by cases q1 <;> cases q2 <;> simp [Ql.j] at e ⊢
    exact fun a o z => qu2 e1.2 a o (qu1 e1.1 a o z)
  cases r1 with
  | own h hr =>
    cases hr
    rw [List.append_nil] at *
    refine ⟨O2, _, I3, .own (h.step om1 go (fun a ha => lo ha) (fun a o n e => (st2.keep a o n e).1) gg) rr2, ?_, fun a ha => ?_, st1.trans st2, qq, pp⟩
    · exact List.nodup_append.mpr ⟨nd1, nd2, fun a h1 b h2 e => d12 a h1 (e ▸ h2)⟩
    · rcases List.mem_append.mp ha with ha | ha
      · exact nz1 a ha
      · exact fun z => nz2 a ha (.inl z)
  | vw h hf hr =>
    cases hr
    have qi := qu2 (hv rfl)
    refine ⟨O2, F2, by simpa using I3, ?_, nd2, fun a ha z => nz2 a ha (.inl z), by simpa using st1.trans st2, qq, by simpa using pp⟩
    refine .vw (h.step (O := []) (H' := H2) (fun _ z => nomatch z) (fun _ _ z => nomatch z) (fun _ _ z => nomatch z) (fun a o _ e => qi a o e) fun a o g e => ?_) hf (by simpa using rr2)
    simpa using gg a o g e
theorem PostL.nil (I : SI K Z O env σ H) : PostL K Z O env σ H [] H [] env .p :=
  ⟨O, [], by rw [Zp_nil]; exact I, .nil, List.Pairwise.nil, (fun _ z => nomatch z), Step.refl, (fun _ _ _ e => e), (fun _ => ⟨rfl, rfl, rfl⟩)⟩
theorem PostX.after {cls : Value} {d : Option Addr} {c : Exn} {v : V} {x : Val} {q1 : Ql} {O1 F1 : List Addr} (st : Step O H O1 F1 H1) (p : PostX K mg (Zp Z F1) O1 σ H1 cls d H2 c env2) : PostX K mg Z O σ H cls d H2 c env2 := by
  obtain ⟨O2, I2, st2⟩ := p.ex
  exact ⟨⟨O2, I2.weak fun a z => .inl z, (st.trans st2).weak fun _ z => nomatch z⟩, p.er⟩
end

/-! ### judgements -/
def SE (X : Cx) (den : Ev → Res) (e : Expr) : Prop := ∀ W, Takes X W → PE X e (TU X.K X.mg W den)
def SA (X : Cx) (den : Ev → ResL) (es : List Expr) : Prop := ∀ W, Takes X W → PA X es (TUL X.K X.mg W den)
theorem PE.imp {X : Cx} {e : Expr} {t t' : TE} (h : PE X e t) (i : ∀ σ H Q, t' σ H Q → t σ H Q) : PE X e t' := ⟨fun pins s σ H Q I q => h.run pins s σ H Q I (i σ H Q q)⟩
theorem PA.imp {X : Cx} {e : List Expr} {t t' : TA} (h : PA X e t) (i : ∀ σ H Q, t' σ H Q → t σ H Q) : PA X e t' := ⟨fun pos pins s σ H Q I q => h.run pos pins s σ H Q I (i σ H Q q)⟩
theorem PT.imp {X : Cx} {e : Expr} {t t' : TT} (h : PT X e t) (i : ∀ σ H Q, t' σ H Q → t σ H Q) : PT X e t' := ⟨fun pins s σ H Q I q => h.run pins s σ H Q I (i σ H Q q)⟩
theorem PS.imp {X : Cx} {e : Stmt} {t t' : TS} (h : PS X e t) (i : ∀ D σ H, t' D σ H → t D σ H) : PS X e t' := ⟨fun pins s σ H D I q => h.run pins s σ H D I (i D σ H q)⟩
theorem PSs.imp {X : Cx} {e : List Stmt} {t t' : TS} (h : PSs X e t) (i : ∀ D σ H, t' D σ H → t D σ H) : PSs X e t' := ⟨fun pins s σ H D I q => h.run pins s σ H D I (i D σ H q)⟩

/-- the heart: a row of evaluations, one after the other; f the first, tr the reading of the others -/
theorem tu_cons {K : PySem.W.Frag} {mg : Str → Option Value} {W : WX} {f : Ev → Res} {fs : List (Ev → Res)} {σ : L2.St} {H : Hp} {R : List V → Hp → Prop}
    (h : TUL K mg W (evs (f :: fs)) σ H R) : TU K mg W f σ H fun v H1 => TUL K mg W (evs fs) σ H1 fun vs H2 => R (v :: vs) H2 := by
  obtain ⟨Z, O, env, I, h⟩ := h
  refine ⟨Z, O, env, I, ?_⟩
  unfold evs at h
  cases ef : f env with
  | stuck => rw [ef] at h; exact h
  | exn c env1 => rw [ef] at h; exact h
  | ok x env1 q1 =>
    rw [ef] at h
    intro v H1 p1
    cases er : evs fs env1 with
    | stuck =>
      simp only [er] at h
    | exn c env2 =>
      simp only [er] at h
      obtain ⟨O1, F1, I1, r1, nd1, nz1, st1, _⟩ := p1.ex
      refine ⟨Zp Z F1, O1, env1, I1, ?_⟩
      rw [er]
      exact fun cls d H' px => h cls d H' (PostX.after (v := v) (x := x) (q1 := q1) st1 px)
    | ok xs env2 q2 =>
      simp only [er] at h
      obtain ⟨O1, F1, I1, k⟩ := PostL.cons (q2 := q2) p1
      refine ⟨Zp Z F1, O1, env1, I1, ?_⟩
      rw [er]
      intro vs H2 p2
      cases x with
      | own m => exact h _ _ (k p2 fun z => nomatch z)
      | vw m =>
        cases q2 with
        | l => exact h.elim
        | p => exact h _ _ (k p2 fun _ z => nomatch z)
        | q => exact h _ _ (k p2 fun _ z => nomatch z)
theorem tul_nil {K : PySem.W.Frag} {mg : Str → Option Value} {W : WX} {σ : L2.St} {H : Hp} {R : List V → Hp → Prop} (h : TUL K mg W (evs []) σ H R) : R [] H := by
  obtain ⟨Z, O, env, I, h⟩ := h
  exact h _ _ (.nil I)
theorem sa_nil {X : Cx} : SA X (evs []) [] := fun W tk => PA.imp pa_nil fun σ H Q h => tul_nil h
theorem sa_cons {X : Cx} {f : Ev → Res} {fs : List (Ev → Res)} {e : Expr} {es : List Expr} (h1 : SE X f e) (h2 : SA X (evs fs) es) (hs : starEach (e :: es) X.env = (false, eval e X.env) :: starEach es X.env := by rfl) : SA X (evs (f :: fs)) (e :: es) := fun W tk =>
  PA.imp (pa_cons (h1 W tk) (h2 W tk) hs) fun σ H Q h => tu_cons h
theorem tu_two {K : PySem.W.Frag} {mg : Str → Option Value} {W : WX} {f g : Ev → Res} {σ : L2.St} {H : Hp} {R : V → V → Hp → Prop}
    (h : TUL K mg W (evs [f, g]) σ H fun vs H2 => ∀ v w, vs = [v, w] → R v w H2) : TU K mg W f σ H fun v H1 => TU K mg W g σ H1 fun w H2 => R v w H2 := by
  have mono : ∀ {f : Ev → Res} {σ H} {Q Q' : VK}, TU K mg W f σ H Q → (∀ v H', Q v H' → Q' v H') → TU K mg W f σ H Q' := fun {f σ H Q Q'} ⟨Z, O, env, I, h⟩ qq => by
    refine ⟨Z, O, env, I, ?_⟩
    cases e : f env with
    | stuck => rw [e] at h; exact h
    | exn c e1 => rw [e] at h; exact h
    | ok x e1 q => rw [e] at h; exact fun v H' p => qq v H' (h v H' p)
  refine mono (tu_cons h) fun v H1 h1 => ?_
  refine mono (tu_cons h1) fun w H2 h2 => ?_
  exact tul_nil h2 v w rfl
theorem tu_one {K : PySem.W.Frag} {mg : Str → Option Value} {W : WX} {f : Ev → Res} {σ : L2.St} {H : Hp} {R : V → Hp → Prop}
    (h : TUL K mg W (evs [f]) σ H fun vs H2 => ∀ v, vs = [v] → R v H2) : TU K mg W f σ H fun v H1 => R v H1 := by
  obtain ⟨Z, O, env, I, h'⟩ := tu_cons h
  refine ⟨Z, O, env, I, ?_⟩
  cases e : f env with
  | stuck => rw [e] at h'; exact h'
  | exn c e1 => rw [e] at h'; exact h'
  | ok x e1 q => rw [e] at h'; exact fun v H' p => tul_nil (h' v H' p) v rfl
end Q

set_option Elab.async false
set_option linter.all false
set_option maxRecDepth 100000
set_option maxHeartbeats 4000000
/-! Names, constants, operators. -/
namespace Q
open PySem PySem.Spec PyProof.Rows L2

section
variable {K : PySem.W.Frag} {mg : Str → Option Value} {H H' H1 H2 : Hp} {G G' Gv Gv' : Addr → Prop} {O O1 O2 F F1 F2 : List Addr} {Z : Addr → Prop} {env env1 env2 : Ev} {σ : L2.St}
/-! ### slots -/
theorem Slots.len : ∀ {env : Ev} {σ : L2.St} {Fs : List (List Addr)}, Slots K H G env σ Fs → env.length = σ.length ∧ Fs.length = σ.length
  | _, _, _, .nil => ⟨rfl, rfl⟩
  | _, _, _, .non r => by have := Slots.len r; simp [this]
  | _, _, _, .som _ r => by have := Slots.len r; simp [this]
theorem Slots.get : ∀ {env : Ev} {σ : L2.St} {Fs : List (List Addr)} {i : Nat} {m : M}, Slots K H G env σ Fs → env[i]? = some (some m) → ∃ v F, σ[i]? = some (some v) ∧ Fs[i]? = some F ∧ RM K H G v m F
  | _, _, _, 0, _, .non _, e => by simp at e
  | _, _, _, 0, _, .som h _, e => by simp at e; subst e; exact ⟨_, _, rfl, rfl, h⟩
  | _, _, _, i + 1, _, .non r, e => by
    obtain ⟨v, F, h1, h2, h3⟩ := Slots.get (i := i) r (by simpa using e)
    exact ⟨v, F, by simpa using h1, by simpa using h2, h3⟩
  | _, _, _, i + 1, _, .som _ r, e => by
    obtain ⟨v, F, h1, h2, h3⟩ := Slots.get (i := i) r (by simpa using e)
    exact ⟨v, F, by simpa using h1, by simpa using h2, h3⟩
theorem Slots.put : ∀ {env : Ev} {σ : L2.St} {Fs : List (List Addr)} {i : Nat} {m : M} {v : V} {F : List Addr}, Slots K H G env σ Fs → RM K H G v m F → Slots K H G (env.set i (some m)) (σ.set i (some v)) (Fs.set i F)
  | _, _, _, _, _, _, _, .nil, _ => .nil
  | _, _, _, 0, _, _, _, .non r, h => .som h r
  | _, _, _, 0, _, _, _, .som _ r, h => .som h r
  | _, _, _, i + 1, _, _, _, .non r, h => .non (Slots.put r h)
  | _, _, _, i + 1, _, _, _, .som h' r, h => .som h' (Slots.put r h)
/-- the same value, told otherwise -/
theorem Slots.put' : ∀ {env : Ev} {σ : L2.St} {Fs : List (List Addr)} {i : Nat} {m : M} {v : V} {F : List Addr}, Slots K H G env σ Fs → RM K H G v m F → σ[i]? = some (some v) → Slots K H G (env.set i (some m)) σ (Fs.set i F)
  | _, _, _, _, _, _, _, .nil, _, _ => .nil
  | _, _, _, 0, _, _, _, .non r, h, e => by simp at e; subst e; exact .som h r
  | _, _, _, 0, _, _, _, .som _ r, h, e => by simp at e; subst e; exact .som h r
  | _, _, _, i + 1, _, _, _, .non r, h, e => .non (Slots.put' r h (by simpa using e))
  | _, _, _, i + 1, _, _, _, .som h' r, h, e => .som h' (Slots.put' r h (by simpa using e))
theorem Slots.drop : ∀ {env : Ev} {σ : L2.St} {Fs : List (List Addr)} {i : Nat}, Slots K H G env σ Fs → Slots K H G (env.set i none) σ (Fs.set i [])
  | _, _, _, _, .nil => .nil
  | _, _, _, 0, .non r => .non r
  | _, _, _, 0, .som _ r => .non r
  | _, _, _, i + 1, .non r => .non (Slots.drop r)
  | _, _, _, i + 1, .som h' r => .som h' (Slots.drop r)
theorem mem_flat_set : ∀ {Fs : List (List Addr)} {i : Nat} {F : List Addr} {a : Addr}, a ∈ (Fs.set i F).flatten → a ∈ Fs.flatten ∨ a ∈ F
  | [], _, _, _, h => by simp at h
  | x :: r, 0, F, a, h => by
    simp only [List.set_cons_zero, List.flatten_cons, List.mem_append] at h ⊢
    rcases h with h | h
    · exact .inr h
    · exact .inl (.inr h)
  | x :: r, i + 1, F, a, h => by
    simp only [List.set_cons_succ, List.flatten_cons, List.mem_append] at h ⊢
    rcases h with h | h
    · exact .inl (.inl h)
    · rcases mem_flat_set h with h | h
      · exact .inl (.inr h)
      · exact .inr h
theorem mem_flat_at : ∀ {Fs : List (List Addr)} {i : Nat} {F : List Addr} {a : Addr}, Fs[i]? = some F → a ∈ F → a ∈ Fs.flatten
  | [], _, _, _, h, _ => by simp at h
  | x :: r, 0, F, a, h, ha => by simp at h; subst h; simp [ha]
  | x :: r, i + 1, F, a, h, ha => by
    have := mem_flat_at (i := i) (Fs := r) (by simpa using h) ha
    rw [List.flatten_cons]; exact List.mem_append_right _ this
/-- a slot's tree is replaced: what was its own, or what nobody owns -/
theorem nodup_flat_set : ∀ {Fs : List (List Addr)} {i : Nat} {F F' : List Addr}, Fs.flatten.Nodup → Fs[i]? = some F → F'.Nodup → (∀ a ∈ F', a ∈ F ∨ a ∉ Fs.flatten) → (Fs.set i F').flatten.Nodup
  | [], _, _, _, _, h, _, _ => by simp at h
  | x :: r, 0, F, F', nd, h, nd', hf => by
    simp at h; subst h
    simp only [List.set_cons_zero, List.flatten_cons] at nd ⊢
    obtain ⟨n1, n2, n3⟩ := List.nodup_append.mp nd
    refine List.nodup_append.mpr ⟨nd', n2, fun a ha b hb e => ?_⟩
    subst e
    rcases hf a ha with z | z
    · exact n3 a z a hb rfl
    · exact z (by rw [List.flatten_cons]; exact List.mem_append_right _ hb)
  | x :: r, i + 1, F, F', nd, h, nd', hf => by
    simp only [List.set_cons_succ, List.flatten_cons] at nd ⊢
    obtain ⟨n1, n2, n3⟩ := List.nodup_append.mp nd
    have h' : r[i]? = some F := by simpa using h
    refine List.nodup_append.mpr ⟨n1, nodup_flat_set n2 h' nd' fun a ha => ?_, fun a ha b hb e => ?_⟩
    · rcases hf a ha with z | z
      · exact .inl z
      · exact .inr fun q => z (by rw [List.flatten_cons]; exact List.mem_append_right _ q)
    · subst e
      rcases mem_flat_set hb with z | z
      · exact n3 a ha a z rfl
      · rcases hf a z with q | q
        · exact n3 a ha a (mem_flat_at h' q) rfl
        · exact q (by rw [List.flatten_cons]; exact List.mem_append_left _ ha)
theorem SI.get (I : SI K Z O env σ H) {i : Nat} {m : M} (e : env[i]? = some (some m)) : ∃ v F, σ[i]? = some (some v) ∧ RM K H (fun a => ¬ Z a ∧ a ∉ O) v m F ∧ (∀ a ∈ F, a ∈ O) := by
  obtain ⟨Fs, s, rfl⟩ := I.sl
  obtain ⟨v, F, h1, h2, h3⟩ := s.get e
  exact ⟨v, F, h1, h3, fun a ha => mem_flat_at h2 ha⟩
/-! ### what is left of a row of values -/
def valD : Val → Option PyData
  | .own m => frz m
  | .vw m => frz m
def valDs : List Val → Option (List PyData)
  | [] => some []
  | x :: xs => (valD x).bind fun d => (valDs xs).map fun ds => d :: ds
abbrev Top : Addr → Prop := fun _ => True
theorem RVs.data : ∀ {vs : List V} {xs : List Val} {F : List Addr} {ds : List PyData}, RVs K H G Gv vs xs F → valDs xs = some ds → RFs K H Top vs ds
  | _, _, _, ds, .nil, e => by unfold valDs at e; cases e; exact .nil
  | _, _, _, ds, .own h r, e => by
    unfold valDs at e
    obtain ⟨d, e1, e2⟩ := Option.bind_eq_some_iff.mp e
    obtain ⟨ds', e3, rfl⟩ := Option.map_eq_some_iff.mp e2
    exact .cons (h.freeze e1 (fun _ _ => trivial) fun _ _ => trivial) (RVs.data r e3)
  | _, _, _, ds, .vw h _ r, e => by
    unfold valDs at e
    obtain ⟨d, e1, e2⟩ := Option.bind_eq_some_iff.mp e
    obtain ⟨ds', e3, rfl⟩ := Option.map_eq_some_iff.mp e2
    exact .cons (h.freeze e1 (fun _ _ => trivial) fun _ _ => trivial) (RVs.data r e3)
/-- the values are dropped, a plain datum is left -/
theorem PostL.plain {vs : List V} {xs : List Val} {q : Ql} {v : V} {d : PyData} (p : PostL K Z O env σ H vs H' xs env1 q) (r : ∀ G, RF K H' G v d) : Post K Z O env σ H v H' (.own (.fz d)) env1 q := by
  obtain ⟨O', F, I, _, _, _, st, qu, pp⟩ := p.ex
  exact ⟨O', [], by rw [Zp_nil]; exact I.weak fun a z => .inl z, .own (.fz (r _)) .nil, List.Pairwise.nil, (fun _ z => nomatch z), st.weak (fun _ z => nomatch z), qu, fun e => ⟨(pp e).1, (pp e).2.1, rfl⟩⟩
/-- what is made of a row of values, the slots as they are -/
def dF (qf : Ql → Ql) (k : List Val → Option Val) (fs : List (Ev → Res)) : Ev → Res := fun env => match evs fs env with
  | .ok xs env' q => (match k xs with
    | some y => .ok y env' (qf q)
    | none => .stuck)
  | .exn c env' => .exn c env'
  | .stuck => .stuck
theorem evs_len : ∀ {fs : List (Ev → Res)} {env env' : Ev} {xs : List Val} {q : Ql}, evs fs env = .ok xs env' q → xs.length = fs.length
  | [], _, _, _, _, h => by unfold evs at h; cases h; rfl
  | f :: fs, env, env', xs, q, h => by
    unfold evs at h
    split at h
    · rename_i x env1 q1 e1
      split at h
      · rename_i xs2 env2 q2 e2
        have := evs_len e2
        split at h
        · cases h
        · cases h; simp [this]
      · cases h
      · cases h
    · cases h
    · cases h
theorem PostL.len {vs : List V} {xs : List Val} {q : Ql} (pl : PostL K Z O env σ H vs H' xs env1 q) : vs.length = xs.length := by
  obtain ⟨O', F, I, r, _⟩ := pl.ex
  exact r.length
theorem tul_F {W : WX} {qf : Ql → Ql} {k : List Val → Option Val} {fs : List (Ev → Res)} {R : List V → Hp → Prop} {Q : VK} (h : TU K mg W (dF qf k fs) σ H Q)
    (c : ∀ Z O env env' q xs y, SI K Z O env σ H → k xs = some y → xs.length = fs.length → ∀ vs H', PostL K Z O env σ H vs H' xs env' q → (∀ v'' H'', Post K Z O env σ H v'' H'' y env' (qf q) → Q v'' H'') → R vs H') : TUL K mg W (evs fs) σ H R := by
  obtain ⟨Z, O, env, I, h⟩ := h
  refine ⟨Z, O, env, I, ?_⟩
  unfold dF at h
  cases e : evs fs env with
  | stuck => rw [e] at h; exact h
  | exn c env' => rw [e] at h; exact h
  | ok xs env' q =>
    rw [e] at h
    intro vs H' p
    cases e2 : k xs with
    | none => simp only [e2] at h
    | some y =>
      simp only [e2] at h
      exact c Z O env env' q xs y I e2 (evs_len e) vs H' p h
/-- an operation upon data that hands back a plain datum -/
def kOp (op : List PyData → Option PyData) (xs : List Val) : Option Val := ((valDs xs).bind op).map fun d => .own (.fz d)
abbrev dOp (op : List PyData → Option PyData) : List (Ev → Res) → Ev → Res := dF id (kOp op)
theorem tul_op {W : WX} {op : List PyData → Option PyData} {fs : List (Ev → Res)} {R : List V → Hp → Prop} {Q : VK} (h : TU K mg W (dOp op fs) σ H Q)
    (k : ∀ vs H' ds d, RFs K H' Top vs ds → op ds = some d → (∀ v', (∀ G, RF K H' G v' d) → Q v' H') → R vs H') : TUL K mg W (evs fs) σ H R :=
  tul_F h fun Z O env env' q xs y I hk hl vs H' p kk => by
    obtain ⟨d, e2, rfl⟩ := Option.map_eq_some_iff.mp hk
    obtain ⟨ds, e3, e4⟩ := Option.bind_eq_some_iff.mp e2
    obtain ⟨O', F, I', r, _⟩ := p.ex
    exact k vs H' ds d (r.data e3) e4 fun v' rv => kk v' H' (p.plain rv)
end

/-! ### constants, names -/
def dLit (d : PyData) : Ev → Res := fun env => .ok (.own (.fz d)) env .p
theorem se_lit {X : Cx} {e : Expr} {v : V} {d : PyData} (h : PE X e (tC v)) (r : ∀ H G, RF X.K H G v d) : SE X (dLit d) e := fun W tk => PE.imp h fun σ H Q hq => by
  obtain ⟨Z, O, env, I, hq⟩ := hq
  exact hq _ _ ((PostL.nil I).plain (r H))
theorem se_int {X : Cx} {i j pos} : SE X (dLit (.int i)) (.Constant (.int i) j pos) := se_lit pe_int fun _ _ => .int i
theorem se_bl {X : Cx} {i j pos} : SE X (dLit (.bool i)) (.Constant (.bool i) j pos) := se_lit pe_bl fun _ _ => .bl i
theorem se_non {X : Cx} {j pos} : SE X (dLit .none) (.Constant .none j pos) := se_lit pe_non fun _ _ => .non
theorem se_str {X : Cx} {i j pos} : SE X (dLit (.str i)) (.Constant (.str i) j pos) := se_lit pe_str fun _ _ => .str i
/-- a module's constant: its data stand in the written part -/
def KD (K : PySem.W.Frag) (u : Value) (d : PyData) : Prop := ∃ v, RelV v u ∧ ∀ H G, RF K H G v d
theorem se_glob {X : Cx} {x : Str} {u : Value} {d : PyData} {pos : Pos} (hg : Gl X x) (hm : X.mg x = some u) (r : KD X.K u d) (hd : (x == ("__debug__" : Str)) = false := by decide) : SE X (dLit d) (.Name x pos) := by
  obtain ⟨v, rv, rd⟩ := r
  exact se_lit (pe_glob hg hm rv hd) rd
/-- a name, looked at -/
def dPk (i : Nat) : Ev → Res := fun env => match env[i]? with
  | some (some (.fz d)) => .ok (.own (.fz d)) env .p
  | some (some m) => .ok (.vw m) env .p
  | _ => .stuck
/-- a name whose value is handed on: frozen -/
def dTk (i : Nat) : Ev → Res := fun env => match env[i]? with
  | some (some (.fz d)) => .ok (.own (.fz d)) env .p
  | some (some m) => (match frz m with
    | some d => .ok (.own (.fz d)) (env.set i (some (.fz d))) .q
    | none => .stuck)
  | _ => .stuck
/-- a name whose value is given away: the name holds it no more -/
def dMv (i : Nat) : Ev → Res := fun env => match env[i]? with
  | some (some (.fz d)) => .ok (.own (.fz d)) env .p
  | some (some m) => .ok (.own m) (env.set i none) .q
  | _ => .stuck
section
variable {X : Cx} {i : Nat} {x : Str} {pos : Pos}
theorem own_pure {K : PySem.W.Frag} {Z : Addr → Prop} {O : List Addr} {env : Ev} {σ : L2.St} {H : Hp} {v : V} {d : PyData} (I : SI K Z O env σ H) (r : RF K H (fun a => ¬ Z a ∧ a ∉ O) v d) : Post K Z O env σ H v H (.own (.fz d)) env .p :=
  ⟨O, [], by rw [Zp_nil]; exact I, .own (.fz (r.imp fun a h => ⟨h.1, h.2, fun z => nomatch z⟩)) .nil, List.Pairwise.nil, (fun _ z => nomatch z), Step.refl, (fun _ _ _ e => e), (fun _ => ⟨rfl, rfl, rfl⟩)⟩
theorem vw_pure {K : PySem.W.Frag} {Z : Addr → Prop} {O F : List Addr} {env : Ev} {σ : L2.St} {H : Hp} {v : V} {m : M} (I : SI K Z O env σ H) (r : RM K H (fun a => ¬ Z a ∧ a ∉ O) v m F) (hf : ∀ a ∈ F, ¬ Z a) : Post K Z O env σ H v H (.vw m) env .p :=
  ⟨O, [], by rw [Zp_nil]; exact I, .vw (r.imp fun a h => ⟨h.1, h.2, fun z => nomatch z⟩) hf .nil, List.Pairwise.nil, (fun _ z => nomatch z), Step.refl, (fun _ _ _ e => e), (fun _ => ⟨rfl, rfl, rfl⟩)⟩
theorem RM.fzD {K : PySem.W.Frag} {H : Hp} {G : Addr → Prop} {v : V} {d : PyData} {F : List Addr} (r : RM K H G v (.fz d) F) : RF K H G v d ∧ F = [] := by
  cases r with
  | fz h => exact ⟨h, rfl⟩
theorem se_pk (hN : X.N[i]? = some x) (hv : Vis X.env.scope x) (hd : (x == ("__debug__" : Str)) = false := by decide) (hcd : (x == ("__classdict__" : Str)) = false := by decide) : SE X (dPk i) (.Name x pos) := fun W tk => PE.imp (pe_var hN hv hd hcd) fun σ H Q h => by
  obtain ⟨Z, O, env, I, h⟩ := h
  unfold dPk at h
  cases e : env[i]? with
  | none => simp only [e] at h
  | some y =>
    cases y with
    | none => simp only [e] at h
    | some m =>
      obtain ⟨v, F, h1, h2, h3⟩ := I.get e
      refine ⟨v, h1, ?_⟩
      cases m with
      | fz d =>
        simp only [e] at h
        exact h v H (own_pure I h2.fzD.1)
      | lst xs => simp only [e] at h; exact h v H (vw_pure I h2 fun a ha => I.nz a (h3 a ha))
      | tup xs => simp only [e] at h; exact h v H (vw_pure I h2 fun a ha => I.nz a (h3 a ha))
      | dK ks xs => simp only [e] at h; exact h v H (vw_pure I h2 fun a ha => I.nz a (h3 a ha))
      | dT ks xs => simp only [e] at h; exact h v H (vw_pure I h2 fun a ha => I.nz a (h3 a ha))
/-- a slot's tree is frozen -/
theorem SI.freeze {K : PySem.W.Frag} {Z : Addr → Prop} {O : List Addr} {env : Ev} {σ : L2.St} {H : Hp} {i : Nat} {m : M} {d : PyData} (I : SI K Z O env σ H) (e : env[i]? = some (some m)) (f : frz m = some d) :
    ∃ O' v, σ[i]? = some (some v) ∧ SI K Z O' (env.set i (some (.fz d))) σ H ∧ RF K H (fun a => ¬ Z a ∧ a ∉ O') v d ∧ Step O H O' [] H := by
  obtain ⟨Fs, s, rfl⟩ := I.sl
  obtain ⟨v, F, h1, h2, h3⟩ := s.get e
  have sub : ∀ a, a ∈ (Fs.set i ([] : List Addr)).flatten → a ∈ Fs.flatten := fun a ha => (mem_flat_set ha).elim id fun z => nomatch z
  have nd : (Fs.set i ([] : List Addr)).flatten.Nodup := nodup_flat_set I.nd h2 List.Pairwise.nil fun _ z => nomatch z
  have nf : ∀ a ∈ F, a ∉ (Fs.set i ([] : List Addr)).flatten := fun a ha => by
    have key : ∀ {Fs : List (List Addr)} {i : Nat}, Fs.flatten.Nodup → Fs[i]? = some F → a ∉ (Fs.set i ([] : List Addr)).flatten := by
      intro Fs
      induction Fs with
      | nil => intro i _ h; simp at h
      | cons y r ih =>
        intro i nd h
        rw [List.flatten_cons] at nd
        obtain ⟨n1, n2, n3⟩ := List.nodup_append.mp nd
        cases i with
        | zero =>
          simp at h; subst h
          simp only [List.set_cons_zero, List.flatten_cons, List.nil_append]
          exact fun z => n3 a ha a z rfl
        | succ i =>
          have h' : r[i]? = some F := by simpa using h
          simp only [List.set_cons_succ, List.flatten_cons, List.mem_append, not_or]
          exact ⟨fun z => n3 a z a (mem_flat_at h' ha) rfl, ih n2 h'⟩
    exact key I.nd h2
  have rf : RF K H (fun a => ¬ Z a ∧ a ∉ (Fs.set i ([] : List Addr)).flatten) v d := h3.freeze f (fun a h => ⟨h.1, fun z => h.2 (sub a z)⟩) fun a ha => ⟨I.nz a (mem_flat_at h2 ha), nf a ha⟩
  refine ⟨_, v, h1, ⟨⟨_, (s.imp fun a h => ⟨h.1, fun z => h.2 (sub a z)⟩).put' (.fz rf) h1, rfl⟩, nd, fun a ha => I.nz a (sub a ha), I.zt⟩, rf, ⟨fun a o n q => ⟨q, fun z => n (sub a z), fun z => nomatch z⟩⟩⟩
theorem se_tk (hN : X.N[i]? = some x) (hv : Vis X.env.scope x) (hd : (x == ("__debug__" : Str)) = false := by decide) (hcd : (x == ("__classdict__" : Str)) = false := by decide) : SE X (dTk i) (.Name x pos) := fun W tk => PE.imp (pe_var hN hv hd hcd) fun σ H Q h => by
  obtain ⟨Z, O, env, I, h⟩ := h
  unfold dTk at h
  cases e : env[i]? with
  | none => simp only [e] at h
  | some y =>
    cases y with
    | none => simp only [e] at h
    | some m =>
      have go : ∀ d, frz m = some d → (∀ v H', Post X.K Z O env σ H v H' (.own (.fz d)) (env.set i (some (.fz d))) .q → Q v H') → tVar i σ H Q := fun d f k => by
        obtain ⟨O', v, h1, I', rf, st⟩ := I.freeze e f
        exact ⟨v, h1, k v H ⟨O', [], by rw [Zp_nil]; exact I', .own (.fz (rf.imp fun a h => ⟨h.1, h.2, fun z => nomatch z⟩)) .nil, List.Pairwise.nil, (fun _ z => nomatch z), st, (fun _ _ _ e => e), fun z => nomatch z⟩⟩
      cases m with
      | fz d =>
        simp only [e] at h
        obtain ⟨v, F, h1, h2, h3⟩ := I.get e
        exact ⟨v, h1, h v H (own_pure I h2.fzD.1)⟩
      | lst xs =>
        simp only [e] at h
        cases f : frz (.lst xs) with
        | none => simp only [f] at h
        | some d => simp only [f] at h; exact go d f h
      | tup xs =>
        simp only [e] at h
        cases f : frz (.tup xs) with
        | none => simp only [f] at h
        | some d => simp only [f] at h; exact go d f h
      | dK ks xs => simp only [e, frz] at h
      | dT ks xs => simp only [e, frz] at h
/-- a slot's tree is taken out -/
theorem SI.take {K : PySem.W.Frag} {Z : Addr → Prop} {O : List Addr} {env : Ev} {σ : L2.St} {H : Hp} {i : Nat} {m : M} (I : SI K Z O env σ H) (e : env[i]? = some (some m)) :
    ∃ O' v F, σ[i]? = some (some v) ∧ SI K (Zp Z F) O' (env.set i none) σ H ∧ RM K H (fun a => ¬ Z a ∧ a ∉ O' ∧ a ∉ F) v m F ∧ F.Nodup ∧ (∀ a ∈ F, ¬ Z a) ∧ Step O H O' F H := by
  obtain ⟨Fs, s, rfl⟩ := I.sl
  obtain ⟨v, F, h1, h2, h3⟩ := s.get e
  have sub : ∀ a, a ∈ (Fs.set i ([] : List Addr)).flatten → a ∈ Fs.flatten := fun a ha => (mem_flat_set ha).elim id fun z => nomatch z
  have nd : (Fs.set i ([] : List Addr)).flatten.Nodup := nodup_flat_set I.nd h2 List.Pairwise.nil fun _ z => nomatch z
  have both : F.Nodup ∧ ∀ a ∈ F, a ∉ (Fs.set i ([] : List Addr)).flatten := by
    have key : ∀ {Fs : List (List Addr)} {i : Nat}, Fs.flatten.Nodup → Fs[i]? = some F → F.Nodup ∧ ∀ a ∈ F, a ∉ (Fs.set i ([] : List Addr)).flatten := by
      intro Fs
      induction Fs with
      | nil => intro i _ h; simp at h
      | cons y r ih =>
        intro i nd h
        rw [List.flatten_cons] at nd
        obtain ⟨n1, n2, n3⟩ := List.nodup_append.mp nd
        cases i with
        | zero =>
          simp at h; subst h
          simp only [List.set_cons_zero, List.flatten_cons, List.nil_append]
          exact ⟨n1, fun a ha z => n3 a ha a z rfl⟩
        | succ i =>
          have h' : r[i]? = some F := by simpa using h
          simp only [List.set_cons_succ, List.flatten_cons, List.mem_append, not_or]
          exact ⟨(ih n2 h').1, fun a ha => ⟨fun z => n3 a z a (mem_flat_at h' ha) rfl, (ih n2 h').2 a ha⟩⟩
    exact key I.nd h2
  refine ⟨_, v, F, h1, ⟨⟨_, (s.imp (G' := fun a => ¬ Zp Z F a ∧ a ∉ (Fs.set i ([] : List Addr)).flatten) fun a h => ⟨fun z => z.elim h.1 fun z => h.2 (mem_flat_at h2 z), fun z => h.2 (sub a z)⟩).drop, rfl⟩, nd, fun a ha z => z.elim (I.nz a (sub a ha)) fun z => both.2 a z ha, fun a z => z.elim (I.zt a) fun z => (h3.owd a z).imp fun o e => e.1⟩,
    h3.imp fun a h => ⟨h.1, fun z => h.2 (sub a z), fun z => h.2 (mem_flat_at h2 z)⟩, both.1, fun a ha => I.nz a (mem_flat_at h2 ha), ⟨fun a o n q => ⟨q, fun z => n (sub a z), fun z => n (mem_flat_at h2 z)⟩⟩⟩
theorem se_mv (hN : X.N[i]? = some x) (hv : Vis X.env.scope x) (hd : (x == ("__debug__" : Str)) = false := by decide) (hcd : (x == ("__classdict__" : Str)) = false := by decide) : SE X (dMv i) (.Name x pos) := fun W tk => PE.imp (pe_var hN hv hd hcd) fun σ H Q h => by
  obtain ⟨Z, O, env, I, h⟩ := h
  unfold dMv at h
  cases e : env[i]? with
  | none => simp only [e] at h
  | some y =>
    cases y with
    | none => simp only [e] at h
    | some m =>
      have go : (∀ v H', Post X.K Z O env σ H v H' (.own m) (env.set i none) .q → Q v H') → tVar i σ H Q := fun k => by
        obtain ⟨O', v, F, h1, I', rm, nd, nz, st⟩ := I.take e
        exact ⟨v, h1, k v H ⟨O', F, I', by simpa using RVs.own rm .nil, nd, nz, st, (fun _ _ _ e => e), fun z => nomatch z⟩⟩
      cases m with
      | fz d =>
        simp only [e] at h
        obtain ⟨v, F, h1, h2, h3⟩ := I.get e
        exact ⟨v, h1, h v H (own_pure I h2.fzD.1)⟩
      | lst xs => simp only [e] at h; exact go h
      | tup xs => simp only [e] at h; exact go h
      | dK ks xs => simp only [e] at h; exact go h
      | dT ks xs => simp only [e] at h; exact go h
end

/-! ### operators -/
/-- an operator upon data, by its rule -/
def OpD (X : Cx) (f : Value → Value → Sem Value) (op : List PyData → Option PyData) : Prop :=
  ∃ r, OpR X f r ∧ ∀ v w H Q ds d, RFs X.K H Top [v, w] ds → op ds = some d → (∀ v', (∀ G, RF X.K H G v' d) → Q v' H) → r v w H Q
theorem OpD.or {X : Cx} {f : Value → Value → Sem Value} {o1 o2 : List PyData → Option PyData} (h1 : OpD X f o1) (h2 : OpD X f o2) : OpD X f (fun ds => (o1 ds).orElse fun _ => o2 ds) := by
  obtain ⟨r1, a1, b1⟩ := h1
  obtain ⟨r2, a2, b2⟩ := h2
  refine ⟨_, a1.or a2, fun v w H Q ds d hd he k => ?_⟩
  have he : (o1 ds).orElse (fun _ => o2 ds) = some d := he
  cases e : o1 ds with
  | some d2 =>
    rw [e] at he
    obtain rfl : d2 = d := Option.some.inj he
    exact .inl (b1 v w H Q ds d2 hd e k)
  | none =>
    rw [e] at he
    exact .inr (b2 v w H Q ds d hd he k)
theorem se_bin {X : Cx} {op : Operator} {o : List PyData → Option PyData} {f g : Ev → Res} {a b : Expr} {pos : Pos} (ho : OpD X (binaryOp op) o) (ha : SE X f a) (hb : SE X g b) : SE X (dOp o [f, g]) (.BinOp a op b pos) := fun W tk => by
  obtain ⟨r, h1, h2⟩ := ho
  refine PE.imp (pe_op h1 (ha W tk) (hb W tk)) fun σ H Q h => tu_two (tul_op h fun vs H' ds d hd he k v w ev => ?_)
  subst ev
  exact h2 v w H' Q ds d hd he k
theorem se_cmp {X : Cx} {op : CmpOp} {o : List PyData → Option PyData} {f g : Ev → Res} {a b : Expr} {pos : Pos} (ho : OpD X (compareOp op) o) (ha : SE X f a) (hb : SE X g b) (hm : behindInMarks op b = false) : SE X (dOp o [f, g]) (.Compare a [op] [b] pos) := fun W tk => by
  obtain ⟨r, h1, h2⟩ := ho
  refine PE.imp (pe_cmpR h1 (ha W tk) (hb W tk) hm) fun σ H Q h => tu_two (tul_op h fun vs H' ds d hd he k v w ev => ?_)
  subst ev
  exact h2 v w H' Q ds d hd he k
def UnD (X : Cx) (f : Value → Sem Value) (op : List PyData → Option PyData) : Prop :=
  ∃ r, UnR X f r ∧ ∀ v H Q ds d, RFs X.K H Top [v] ds → op ds = some d → (∀ v', (∀ G, RF X.K H G v' d) → Q v' H) → r v H Q
theorem se_un {X : Cx} {op : UnaryOp} {o : List PyData → Option PyData} {f : Ev → Res} {a : Expr} {pos : Pos} (ho : UnD X (unaryOp op) o) (ha : SE X f a) : SE X (dOp o [f]) (.UnaryOp op a pos) := fun W tk => by
  obtain ⟨r, h1, h2⟩ := ho
  refine PE.imp (pe_un h1 (ha W tk)) fun σ H Q h => tu_one (tul_op h fun vs H' ds d hd he k v ev => ?_)
  subst ev
  exact h2 v H' Q ds d hd he k
/-- two ints -/
theorem RFs.two {K : PySem.W.Frag} {H : Hp} {G : Addr → Prop} {v w : V} {a b : PyData} (r : RFs K H G [v, w] [a, b]) : RF K H G v a ∧ RF K H G w b := by
  cases r with
  | cons h r =>
    cases r with
    | cons h' _ => exact ⟨h, h'⟩
theorem RFs.one {K : PySem.W.Frag} {H : Hp} {G : Addr → Prop} {v : V} {a : PyData} (r : RFs K H G [v] [a]) : RF K H G v a := by
  cases r with
  | cons h _ => exact h
theorem RF.intI {K : PySem.W.Frag} {H : Hp} {G : Addr → Prop} {v : V} {i : Int} (r : RF K H G v (.int i)) : v = .int i := by cases r; rfl
theorem RF.strI {K : PySem.W.Frag} {H : Hp} {G : Addr → Prop} {v : V} {i : Str} (r : RF K H G v (.str i)) : v = .str i := by cases r; rfl
theorem RF.blI {K : PySem.W.Frag} {H : Hp} {G : Addr → Prop} {v : V} {i : Bool} (r : RF K H G v (.bool i)) : v = .bl i := by cases r; rfl
theorem RF.nonI {K : PySem.W.Frag} {H : Hp} {G : Addr → Prop} {v : V} (r : RF K H G v .none) : v = .non := by cases r; rfl
/-- ints, with a condition -/
def oI2 (c : Int → Int → Bool) (g : Int → Int → Int) : List PyData → Option PyData
  | [.int i, .int j] => if c i j = true then some (.int (g i j)) else none
  | _ => none
def oI2b (g : Int → Int → Bool) : List PyData → Option PyData
  | [.int i, .int j] => some (.bool (g i j))
  | _ => none
def oS2b (g : Str → Str → Bool) : List PyData → Option PyData
  | [.str i, .str j] => some (.bool (g i j))
  | _ => none
theorem opd_I2 {X : Cx} {f : Value → Value → Sem Value} {C : Int → Int → Prop} {c : Int → Int → Bool} {g : Int → Int → Int} (h : OpR X f (rI C fun i j => .int (g i j))) (hc : ∀ i j, c i j = true → C i j) : OpD X f (oI2 c g) := by
  refine ⟨_, h, fun v w H Q ds d hd he k => ?_⟩
  unfold oI2 at he
  split at he
  · rename_i i j
    split at he
    · rename_i hij
      cases he
      obtain ⟨r1, r2⟩ := hd.two
      exact ⟨i, j, r1.intI, r2.intI, hc i j hij, k _ fun G => .int _⟩
    · cases he
  · cases he
theorem opd_I0 {X : Cx} {f : Value → Value → Sem Value} {g : Int → Int → Int} (h : OpR X f (rI0 fun i j => .int (g i j))) : OpD X f (oI2 (fun _ _ => true) g) := by
  refine ⟨_, h, fun v w H Q ds d hd he k => ?_⟩
  unfold oI2 at he
  split at he
  · rename_i i j
    rw [if_pos rfl] at he
    cases he
    obtain ⟨r1, r2⟩ := hd.two
    exact ⟨i, j, r1.intI, r2.intI, k _ fun G => .int _⟩
  · cases he
theorem opd_Ib {X : Cx} {f : Value → Value → Sem Value} {g : Int → Int → Bool} (h : OpR X f (rI0 fun i j => .bl (g i j))) : OpD X f (oI2b g) := by
  refine ⟨_, h, fun v w H Q ds d hd he k => ?_⟩
  unfold oI2b at he
  split at he
  · rename_i i j
    cases he
    obtain ⟨r1, r2⟩ := hd.two
    exact ⟨i, j, r1.intI, r2.intI, k _ fun G => .bl _⟩
  · cases he
theorem opd_Sb {X : Cx} {f : Value → Value → Sem Value} {g : Str → Str → Bool} (h : OpR X f (fun x y H Q => ∃ i j, x = .str i ∧ y = .str j ∧ Q (.bl (g i j)) H)) : OpD X f (oS2b g) := by
  refine ⟨_, h, fun v w H Q ds d hd he k => ?_⟩
  unfold oS2b at he
  split at he
  · rename_i i j
    cases he
    obtain ⟨r1, r2⟩ := hd.two
    exact ⟨i, j, r1.strI, r2.strI, k _ fun G => .bl _⟩
  · cases he
abbrev oSub := oI2 (fun _ _ => true) fun i j => i - j
/-- together below a million bits -/
def mulOk (i j : Int) : Bool := decide (i.natAbs.log2 + j.natAbs.log2 < 1000000)
abbrev oMulI := oI2 mulOk fun i j => i * j
def divOk (_ j : Int) : Bool := decide (j ≠ 0) && decide (j.natAbs.log2 < 9000)
abbrev oFdiv := oI2 divOk Int.fdiv
abbrev oMod := oI2 (fun _ j => decide (j ≠ 0)) Int.fmod
section
variable {X : Cx}
theorem opd_sub : OpD X (binaryOp .Sub) oSub := opd_I0 op_sub
theorem opd_mulI : OpD X (binaryOp .Mult) oMulI := opd_I2 op_mulW fun i j h => (of_decide_eq_true (show decide (i.natAbs.log2 + j.natAbs.log2 < 1000000) = true from h) : i.natAbs.log2 + j.natAbs.log2 < 1000000)
theorem op_fdivWN : OpR X (binaryOp .FloorDiv) (rI (fun i j => j ≠ 0 ∧ j.natAbs.log2 < 9000) fun i j => .int (i.fdiv j)) := opI fun i j _ _ _ _ _ hc q => floordiv_int hc.1 q (.inl (PyProof.noPylong_of_log2 hc.2))
theorem opd_fdiv : OpD X (binaryOp .FloorDiv) oFdiv := opd_I2 op_fdivWN fun i j h => by
  unfold divOk at h
  rw [Bool.and_eq_true] at h
  exact ⟨of_decide_eq_true h.1, of_decide_eq_true h.2⟩
theorem opd_mod : OpD X (binaryOp .Mod) oMod := opd_I2 op_modN fun i j h => of_decide_eq_true h
theorem opd_lt : OpD X (compareOp .Lt) (oI2b fun i j => decide (i < j)) := opd_Ib op_lt
theorem opd_le : OpD X (compareOp .LtE) (oI2b fun i j => decide (i ≤ j)) := opd_Ib op_le
theorem opd_gt : OpD X (compareOp .Gt) (oI2b fun i j => decide (j < i)) := opd_Ib op_gt
theorem opd_ge : OpD X (compareOp .GtE) (oI2b fun i j => decide (j ≤ i)) := opd_Ib op_ge
end
end Q

set_option Elab.async false
set_option linter.all false
set_option maxRecDepth 100000
set_option maxHeartbeats 4000000
/-! Displays, items, slices, tests. -/
namespace Q
open PySem PySem.Spec PyProof.Rows L2

section
variable {K : PySem.W.Frag} {mg : Str → Option Value} {H H' H1 H2 : Hp} {G G' Gv Gv' : Addr → Prop} {O O1 O2 F F1 F2 : List Addr} {Z : Addr → Prop} {env env1 env2 : Ev} {σ : L2.St}
/-! ### a new thing -/
theorem upd_keep {H : Hp} {p : Addr} {o : HO} (hn : H p = none) : ∀ a o', H a = some o' → upd H p o a = some o' := fun a o' e => by
  rw [upd_ne (ne_of_none e hn)]; exact e
theorem Slots.grow : ∀ {env : Ev} {σ : L2.St} {Fs : List (List Addr)}, Slots K H G env σ Fs → (∀ a o, H a = some o → H' a = some o) → Slots K H' G env σ Fs
  | _, _, _, .nil, _ => .nil
  | _, _, _, .non r, k => .non (Slots.grow r k)
  | _, _, _, .som h r, k => .som (h.step (O := []) (fun _ z => nomatch z) (fun _ _ z => nomatch z) (fun _ _ z => nomatch z) (fun a o _ e => k a o e) fun a _ g _ => g) (Slots.grow r k)
theorem SI.grow (I : SI K Z O env σ H) (k : ∀ a o, H a = some o → H' a = some o) : SI K Z O env σ H' := by
  obtain ⟨Fs, s, e⟩ := I.sl
  exact ⟨⟨Fs, s.grow k, e⟩, I.nd, I.nz, fun a z => (I.zt a z).imp fun o q => k a o q⟩
theorem RM.grow {v : V} {m : M} (r : RM K H G v m F) (k : ∀ a o, H a = some o → H' a = some o) : RM K H' G v m F :=
  r.step (O := []) (fun _ z => nomatch z) (fun _ _ z => nomatch z) (fun _ _ z => nomatch z) (fun a o _ e => k a o e) fun a _ g _ => g
theorem RMs.grow {vs : List V} {ms : List M} (r : RMs K H G vs ms F) (k : ∀ a o, H a = some o → H' a = some o) : RMs K H' G vs ms F :=
  r.step (O := []) (fun _ z => nomatch z) (fun _ _ z => nomatch z) (fun _ _ z => nomatch z) (fun a o _ e => k a o e) fun a _ g _ => g
theorem RMs.imp {vs : List V} {ms : List M} (r : RMs K H G vs ms F) (gg : ∀ a, G a → G' a) : RMs K H G' vs ms F :=
  r.step (O := []) (fun _ z => nomatch z) (fun _ _ z => nomatch z) (fun _ _ z => nomatch z) (fun _ _ _ z => z) fun a _ g _ => gg a g
theorem RF.grow {v : V} {d : PyData} (r : RF K H G v d) (k : ∀ a o, H a = some o → H' a = some o) : RF K H' G v d :=
  r.step (O := []) (fun _ z => nomatch z) (fun _ _ z => nomatch z) (fun a o _ e => k a o e) fun a _ g _ => g
theorem RFs.grow {vs : List V} {ds : List PyData} (r : RFs K H G vs ds) (k : ∀ a o, H a = some o → H' a = some o) : RFs K H' G vs ds :=
  r.step (O := []) (fun _ z => nomatch z) (fun _ _ z => nomatch z) (fun a o _ e => k a o e) fun a _ g _ => g
def owns : List Val → Option (List M)
  | [] => some []
  | .own m :: xs => (owns xs).map fun ms => m :: ms
  | .vw _ :: _ => none
theorem RVs.ms : ∀ {vs : List V} {xs : List Val} {F : List Addr} {ms : List M}, RVs K H G Gv vs xs F → owns xs = some ms → RMs K H G vs ms F
  | _, _, _, ms, .nil, e => by unfold owns at e; cases e; exact .nil
  | _, _, _, ms, .own h r, e => by
    unfold owns at e
    obtain ⟨ms', e1, rfl⟩ := Option.map_eq_some_iff.mp e
    exact .cons h (RVs.ms r e1)
  | _, _, _, ms, .vw _ _ _, e => by unfold owns at e; cases e
/-- all of it frozen -/
def leaves : List M → Option (List PyData)
  | [] => some []
  | .fz d :: ms => (leaves ms).map fun ds => d :: ds
  | _ :: _ => none
theorem RMs.leaf : ∀ {vs : List V} {ms : List M} {F : List Addr} {ds : List PyData}, RMs K H G vs ms F → leaves ms = some ds → RFs K H G vs ds ∧ F = []
  | _, _, _, ds, .nil, e => by unfold leaves at e; cases e; exact ⟨.nil, rfl⟩
  | _, _, _, ds, .cons (m := m) h r, e => by
    cases m with
    | fz d =>
      unfold leaves at e
      obtain ⟨ds', e1, rfl⟩ := Option.map_eq_some_iff.mp e
      obtain ⟨h1, rfl⟩ := h.fzD
      obtain ⟨h2, rfl⟩ := RMs.leaf r e1
      exact ⟨.cons h1 h2, rfl⟩
    | lst xs => unfold leaves at e; cases e
    | tup xs => unfold leaves at e; cases e
    | dK ks xs => unfold leaves at e; cases e
    | dT ks xs => unfold leaves at e; cases e
theorem RFs.tms : ∀ {vs : List V} {ds : List PyData}, RFs K H G vs ds → RMs K H G vs (ds.map M.fz) []
  | _, _, .nil => .nil
  | _, _, .cons h r => by simpa using RMs.cons (.fz h) (RFs.tms r)
def mkTup (ms : List M) : M := match leaves ms with
  | some ds => .fz (.tuple ds)
  | none => .tup ms
theorem RM.ofTup {a : Addr} {vs : List V} {ms : List M} (h : SqN K H a vs) (r : RMs K H G vs ms F) : RM K H G (.ref a) (mkTup ms) F := by
  unfold mkTup
  cases e : leaves ms with
  | none => exact .tup h r
  | some ds =>
    obtain ⟨h1, rfl⟩ := r.leaf e
    exact .fz (.tup h h1)
def Ql.n : Ql → Ql
  | .l => .l
  | _ => .q
theorem qn_l {q : Ql} (h : q.n ≠ .l) : q ≠ .l := fun e => h (by rw [e]; rfl)
theorem qn_p {q : Ql} (h : q.n = .p) : False := by cases q <;> cases h
/-- a new tuple of the values -/
theorem PostL.newT {vs : List V} {xs : List Val} {ms : List M} {q : Ql} {p : Addr} (pl : PostL K Z O env σ H vs H' xs env1 q) (eo : owns xs = some ms) (hn : H' p = none) {o : Obj} (ho : o.dict = none) : Post K Z O env σ H (.ref p) (upd H' p (TF o vs)) (.own (mkTup ms)) env1 q.n := by
  obtain ⟨O', F, I, r, nd, nz, st, qu, pp⟩ := pl.ex
  have k := upd_keep (o := TF o vs) hn
  refine ⟨O', F, I.grow k, by simpa using RVs.own (F := F) (RM.ofTup (.inl ⟨o, upd_same, ho⟩) ((r.ms eo).grow k)) .nil, nd, nz, ⟨fun a o n e => ?_⟩, fun z a o e => k a o (qu (qn_l z) a o e), fun z => (qn_p z).elim⟩
  obtain ⟨e1, n1, n2⟩ := st.keep a o n e
  exact ⟨k a o e1, n1, n2⟩
/-- a new owned list of the values -/
theorem PostL.newL {vs : List V} {xs : List Val} {ms : List M} {q : Ql} {p : Addr} (pl : PostL K Z O env σ H vs H' xs env1 q) (eo : owns xs = some ms) (hn : H' p = none) : Post K Z O env σ H (.ref p) (upd H' p (.lst vs)) (.own (.lst ms)) env1 q.n := by
  obtain ⟨O', F, I, r, nd, nz, st, qu, pp⟩ := pl.ex
  have k := upd_keep (o := .lst vs) hn
  have rm := (r.ms eo)
  have nf : p ∉ F := fun z => by
    obtain ⟨o, e, _⟩ := rm.owd p z
    rw [hn] at e; cases e
  have nO : p ∉ O' := fun z => by
    obtain ⟨o, e, _⟩ := I.owd p z
    rw [hn] at e; cases e
  have nZ : ¬ Z p := fun z => by
    obtain ⟨o, e⟩ := I.zt p (.inl z)
    rw [hn] at e; cases e
  have I2 : SI K (Zp Z (p :: F)) O' env1 σ (upd H' p (.lst vs)) := by
    obtain ⟨Fs, s, e⟩ := (I.grow k).sl
    have alive : ∀ a, (¬ Zp Z F a ∧ a ∉ O') → True := fun _ _ => trivial
    have key : ∀ {env : Ev} {σ : L2.St} {Fs : List (List Addr)}, Slots K H' (fun a => ¬ Zp Z F a ∧ a ∉ O') env σ Fs → Slots K (upd H' p (.lst vs)) (fun a => ¬ Zp Z (p :: F) a ∧ a ∉ O') env σ Fs := by
      intro env σ Fs s
      induction s with
      | nil => exact .nil
      | non _ ih => exact .non ih
      | som h _ ih =>
        refine .som (h.step (O := []) (fun _ z => nomatch z) (fun _ _ z => nomatch z) (fun _ _ z => nomatch z) (fun a o _ e => k a o e) fun a o g e => ⟨fun z => ?_, g.2⟩) ih
        rcases z with z | z
        · exact g.1 (.inl z)
        · rcases List.mem_cons.mp z with z | z
          · rw [z, hn] at e; cases e
          · exact g.1 (.inr z)
    obtain ⟨Fs, s, e⟩ := I.sl
    refine ⟨⟨Fs, key s, e⟩, I.nd, fun a ha z => ?_, fun a z => ?_⟩
    · rcases z with z | z
      · exact I.nz a ha (.inl z)
      · rcases List.mem_cons.mp z with z | z
        · exact nO (z ▸ ha)
        · exact I.nz a ha (.inr z)
    · rcases z with z | z
      · exact (I.zt a (.inl z)).imp fun o q => k a o q
      · rcases List.mem_cons.mp z with z | z
        · exact ⟨_, by rw [z]; exact upd_same⟩
        · exact (I.zt a (.inr z)).imp fun o q => k a o q
  refine ⟨O', p :: F, I2, ?_, List.nodup_cons.mpr ⟨nf, nd⟩, fun a ha => ?_, ⟨fun a o n e => ?_⟩, fun z a o e => k a o (qu (qn_l z) a o e), fun z => (qn_p z).elim⟩
  · have h := RVs.own (G := fun a => ¬ Z a ∧ a ∉ O' ∧ a ∉ p :: F) (Gv := fun a => ¬ Z a) (RM.lst (G := fun a => ¬ Z a ∧ a ∉ O' ∧ a ∉ p :: F) (upd_same (H := H') (a := p) (o := .lst vs)) (rm.step (O := []) (H' := upd H' p (.lst vs)) (G' := fun a => ¬ Z a ∧ a ∉ O' ∧ a ∉ p :: F) (fun _ z => nomatch z) (fun _ _ z => nomatch z) (fun _ _ z => nomatch z) (fun a o _ e => k a o e) fun a o g e => ⟨g.1, g.2.1, fun z => ?_⟩)) .nil
    · simpa using h
    · rcases List.mem_cons.mp z with z | z
      · rw [z, hn] at e; cases e
      · exact g.2.2 z
  · rcases List.mem_cons.mp ha with z | z
    · rw [z]; exact nZ
    · exact nz a z
  · obtain ⟨e1, n1, n2⟩ := st.keep a o n e
    refine ⟨k a o e1, n1, fun z => ?_⟩
    rcases List.mem_cons.mp z with z | z
    · rw [z, hn] at e1; cases e1
    · exact n2 z
end
def kMk (mk : List M → M) (xs : List Val) : Option Val := (owns xs).map fun ms => .own (mk ms)
abbrev dTup := dF Ql.n (kMk mkTup)
abbrev dLst := dF Ql.n (kMk M.lst)
theorem small_sz {n : Nat} (h : n ≤ 1000) : n ≤ sizeLine := by rw [sizeLine_eq]; omega
theorem se_tup {X : Cx} {fs : List (Ev → Res)} {es : List Expr} {x1 : Nat} {pos : Pos} (h : SA X (evs fs) es) (hl : fs.length ≤ 1000 := by decide) : SE X (dTup fs) (.Tuple es x1 pos) := fun W tk =>
  PE.imp (pe_tupX (h W tk)) fun σ H Q hq => tul_F hq fun Z O env env' q xs y I hk el vs H' p k => by
    obtain ⟨ms, eo, rfl⟩ := Option.map_eq_some_iff.mp hk
    exact ⟨by rw [p.len, el]; exact small_sz hl, fun a o hn ho => k _ _ (p.newT eo hn ho)⟩
theorem se_lst {X : Cx} {fs : List (Ev → Res)} {es : List Expr} {pos : Pos} (h : SA X (evs fs) es) (hl : fs.length ≤ 1000 := by decide) : SE X (dLst fs) (.List es pos) := fun W tk =>
  PE.imp (pe_lst (h W tk)) fun σ H Q hq => tul_F hq fun Z O env env' q xs y I hk el vs H' p k => by
    obtain ⟨ms, eo, rfl⟩ := Option.map_eq_some_iff.mp hk
    exact ⟨by rw [p.len, el]; exact small_sz hl, fun a hn => k _ _ (p.newL eo hn)⟩

/-! ### items -/
def mkVw : M → Val
  | .fz d => .own (.fz d)
  | m => .vw m
/-- x[k] -/
def ixV : Val → Int → Option Val
  | .own (.fz (.tuple ds)), i => (atI ds i).map fun d => .own (.fz d)
  | .own (.fz (.list ds)), i => (atI ds i).map fun d => .own (.fz d)
  | .own (.fz (.str z)), i => if z.length ≤ sizeLine then (atI z.cps.toList i).map fun c => .own (.fz (.str ⟨#[c]⟩)) else none
  | .own (.lst ms), i => (atI ms i).map .own
  | .own (.tup ms), i => (atI ms i).map .own
  | .vw (.lst ms), i => (atI ms i).map mkVw
  | .vw (.tup ms), i => (atI ms i).map mkVw
  | _, _ => none
def kIx : List Val → Option Val
  | [x, .own (.fz (.int i))] => ixV x i
  | _ => none
abbrev dIx (f g : Ev → Res) := dF id kIx [f, g]
section
variable {K : PySem.W.Frag} {mg : Str → Option Value} {H H' H1 H2 : Hp} {G G' Gv Gv' : Addr → Prop} {O O' O1 O2 F F1 F2 : List Addr} {Z : Addr → Prop} {env env1 env2 : Ev} {σ : L2.St}
theorem atI_at {α β : Type} {xs : List α} {ys : List β} (hl : xs.length = ys.length) {i : Int} {y : β} (h : atI ys i = some y) : ∃ (j : Nat) (x : α), ys[j]? = some y ∧ xs[j]? = some x ∧ atI xs i = some x := by
  unfold atI at h ⊢
  rw [hl]
  obtain ⟨j, e1, e2⟩ := Option.bind_eq_some_iff.mp h
  obtain ⟨hj, _⟩ := List.getElem?_eq_some_iff.mp e2
  have hx : xs[j]? = some (xs[j]'(by omega)) := List.getElem?_eq_getElem _
  exact ⟨j, _, e2, hx, by rw [e1]; exact hx⟩
/-- one of the values is left: a frozen datum -/
theorem PostAt.keepF {vs : List V} {xs : List Val} {q : Ql} {v : V} {d : PyData} (pl : PostAt K Z O env σ H vs H' xs env1 q O' F) (r : RF K H' (fun a => ¬ Z a ∧ a ∉ O' ∧ a ∉ F) v d) : Post K Z O env σ H v H' (.own (.fz d)) env1 q := by
  obtain ⟨I, rr, nd, nz, st, qu, pp⟩ := pl
  exact ⟨O', [], by rw [Zp_nil]; exact I.weak fun a z => .inl z, .own (.fz (r.imp fun a h => ⟨h.1, h.2.1, fun z => nomatch z⟩)) .nil, List.Pairwise.nil, (fun _ z => nomatch z), st.weak (fun _ z => nomatch z), qu, fun e => ⟨(pp e).1, (pp e).2.1, rfl⟩⟩
/-- .. or a view -/
theorem PostAt.keepV {vs : List V} {xs : List Val} {q : Ql} {v : V} {m : M} {F' : List Addr} (pl : PostAt K Z O env σ H vs H' xs env1 q O' F) (h1 : RM K H' (fun a => ¬ Z a ∧ a ∉ O' ∧ a ∉ F) v m F') (h2 : ∀ a ∈ F', ¬ Z a) : Post K Z O env σ H v H' (mkVw m) env1 q := by
  obtain ⟨I, rr, nd, nz, st, qu, pp⟩ := pl
  have h3 := h1.imp (G' := fun a => ¬ Z a ∧ a ∉ O' ∧ a ∉ ([] : List Addr)) fun a h => ⟨h.1, h.2.1, fun z => nomatch z⟩
  refine ⟨O', [], by rw [Zp_nil]; exact I.weak fun a z => .inl z, ?_, List.Pairwise.nil, (fun _ z => nomatch z), st.weak (fun _ z => nomatch z), qu, fun e => ⟨(pp e).1, (pp e).2.1, rfl⟩⟩
  cases m with
  | fz d => exact .own (.fz h3.fzD.1) .nil
  | lst xs => exact .vw h3 h2 .nil
  | tup xs => exact .vw h3 h2 .nil
  | dK ks xs => exact .vw h3 h2 .nil
  | dT ks xs => exact .vw h3 h2 .nil
/-- .. or a part of an owned tree -/
theorem PostAt.keepO {vs : List V} {xs : List Val} {q : Ql} {v : V} {m : M} {F' : List Addr} (pl : PostAt K Z O env σ H vs H' xs env1 q O' F) (h1 : RM K H' (fun a => ¬ Z a ∧ a ∉ O' ∧ a ∉ F) v m F') (h2 : F'.Sublist F) : Post K Z O env σ H v H' (.own m) env1 q := by
  obtain ⟨I, rr, nd, nz, st, qu, pp⟩ := pl
  refine ⟨O', F', I.weak fun a z => z.elim .inl fun z => .inr (h2.subset z), by simpa using RVs.own (h1.imp (G' := fun a => ¬ Z a ∧ a ∉ O' ∧ a ∉ F') fun a h => ⟨h.1, h.2.1, fun z => h.2.2 (h2.subset z)⟩) .nil, nd.sublist h2, fun a ha => nz a (h2.subset ha), st.weak fun x hx => h2.subset hx, qu, fun e => ⟨(pp e).1, (pp e).2.1, ?_⟩⟩
  have z := (pp e).2.2
  subst z
  exact List.sublist_nil.mp h2
theorem RVs.own1 {v : V} {vs : List V} {m : M} {xs : List Val} (r : RVs K H G Gv (v :: vs) (.own m :: xs) F) : ∃ F', RM K H G v m F' ∧ F'.Sublist F := by
  cases r with
  | own h _ => exact ⟨_, h, List.sublist_append_left _ _⟩
theorem RVs.vw1 {v : V} {vs : List V} {m : M} {xs : List Val} (r : RVs K H G Gv (v :: vs) (.vw m :: xs) F) : ∃ F', RM K H G v m F' ∧ ∀ a ∈ F', Gv a := by
  cases r with
  | vw h hf _ => exact ⟨_, h, hf⟩
theorem RVs.tail {v : V} {vs : List V} {x : Val} {xs : List Val} (r : RVs K H G Gv (v :: vs) (x :: xs) F) : ∃ F', RVs K H G Gv vs xs F' ∧ F'.Sublist F := by
  cases r with
  | own _ h => exact ⟨_, h, List.sublist_append_right _ _⟩
  | vw _ _ h => exact ⟨_, h, List.Sublist.refl _⟩
theorem RVs.fz1 {v : V} {d : PyData} {xs : List Val} {vs : List V} (r : RVs K H G Gv (v :: vs) (.own (.fz d) :: xs) F) : RF K H G v d := by
  cases r with
  | own h _ => exact h.fzD.1
theorem RVs.nilF {vs : List V} (r : RVs K H G Gv vs [] F) : vs = [] ∧ F = [] := by cases r; exact ⟨rfl, rfl⟩
/-- the item of a value -/
theorem ix_val {Q : VK} {v : V} {x : Val} {xs : List Val} {vs : List V} {i : Int} {y : Val} {q : Ql} (pl : PostL K Z O env σ H (v :: vs) H' (x :: xs) env1 q) (hy : ixV x i = some y) (h : ∀ v' H'', Post K Z O env σ H v' H'' y env1 q → Q v' H'') : rIx K v (.int i) H' Q := by
  obtain ⟨O', F, pa⟩ := pl.ex
  have rr := pa.2.1
  unfold ixV at hy
  split at hy
  · rename_i ds
    obtain ⟨d, hd, rfl⟩ := Option.map_eq_some_iff.mp hy
    have r0 := rr.fz1
    cases r0 with
    | tup hq rs =>
      obtain ⟨j, x, e1, e2, e3⟩ := atI_at rs.length hd
      obtain ⟨v', e4, r4⟩ := rs.get e1
      rw [e2] at e4; cases e4
      exact .inr (.inl ⟨_, _, i, x, rfl, rfl, hq.t, e3, h x H' (pa.keepF r4)⟩)
  · rename_i ds
    obtain ⟨d, hd, rfl⟩ := Option.map_eq_some_iff.mp hy
    have r0 := rr.fz1
    cases r0 with
    | lst hq hg rs =>
      obtain ⟨j, x, e1, e2, e3⟩ := atI_at rs.length hd
      obtain ⟨v', e4, r4⟩ := rs.get e1
      rw [e2] at e4; cases e4
      exact .inl ⟨_, _, i, x, rfl, rfl, .inl hq, e3, h x H' (pa.keepF r4)⟩
  · rename_i z
    split at hy
    · rename_i hz
      obtain ⟨c, hc, rfl⟩ := Option.map_eq_some_iff.mp hy
      have e := rr.fz1.strI
      subst e
      exact .inr (.inr ⟨z, i, c, rfl, rfl, hz, hc, h _ H' (pa.keepF (.str _))⟩)
    · cases hy
  · rename_i ms
    obtain ⟨m, hm, rfl⟩ := Option.map_eq_some_iff.mp hy
    obtain ⟨F', r0, sub⟩ := rr.own1
    cases r0 with
    | lst hq rs =>
      obtain ⟨j, x, e1, e2, e3⟩ := atI_at rs.length hm
      obtain ⟨v', F2, e4, r4, s4⟩ := rs.get e1
      rw [e2] at e4; cases e4
      exact .inl ⟨_, _, i, x, rfl, rfl, .inl (.inl hq), e3, h x H' (pa.keepO r4 ((s4.trans (List.sublist_cons_self _ _)).trans sub))⟩
  · rename_i ms
    obtain ⟨m, hm, rfl⟩ := Option.map_eq_some_iff.mp hy
    obtain ⟨F', r0, sub⟩ := rr.own1
    cases r0 with
    | tup hq rs =>
      obtain ⟨j, x, e1, e2, e3⟩ := atI_at rs.length hm
      obtain ⟨v', F2, e4, r4, s4⟩ := rs.get e1
      rw [e2] at e4; cases e4
      exact .inr (.inl ⟨_, _, i, x, rfl, rfl, hq.t, e3, h x H' (pa.keepO r4 (s4.trans sub))⟩)
  · rename_i ms
    obtain ⟨m, hm, rfl⟩ := Option.map_eq_some_iff.mp hy
    obtain ⟨F', r0, hv⟩ := rr.vw1
    cases r0 with
    | lst hq rs =>
      obtain ⟨j, x, e1, e2, e3⟩ := atI_at rs.length hm
      obtain ⟨v', F2, e4, r4, s4⟩ := rs.get e1
      rw [e2] at e4; cases e4
      exact .inl ⟨_, _, i, x, rfl, rfl, .inl (.inl hq), e3, h x H' (pa.keepV r4 fun a ha => hv a (List.mem_cons_of_mem _ (s4.subset ha)))⟩
  · rename_i ms
    obtain ⟨m, hm, rfl⟩ := Option.map_eq_some_iff.mp hy
    obtain ⟨F', r0, hv⟩ := rr.vw1
    cases r0 with
    | tup hq rs =>
      obtain ⟨j, x, e1, e2, e3⟩ := atI_at rs.length hm
      obtain ⟨v', F2, e4, r4, s4⟩ := rs.get e1
      rw [e2] at e4; cases e4
      exact .inr (.inl ⟨_, _, i, x, rfl, rfl, hq.t, e3, h x H' (pa.keepV r4 fun a ha => hv a (s4.subset ha))⟩)
  · cases hy
theorem kIx_some {xs : List Val} {y : Val} (h : kIx xs = some y) : ∃ x i, xs = [x, .own (.fz (.int i))] ∧ ixV x i = some y := by
  unfold kIx at h
  split at h
  · exact ⟨_, _, rfl, h⟩
  · cases h
end
theorem se_ix {X : Cx} {f g : Ev → Res} {a b : Expr} {pos : Pos} (ha : SE X f a) (hb : SE X g b) (hs : PlainIx b) : SE X (dIx f g) (.Subscript a b pos) := fun W tk =>
  PE.imp (pe_ix ix_seq (ha W tk) (hb W tk) hs) fun σ H Q h => tu_two (tul_F h fun Z O env env' q xs y I hk hl vs H' pl k v w ev => by
    subst ev
    obtain ⟨x, i, rfl, hy⟩ := kIx_some hk
    have ew : w = .int i := by
      obtain ⟨O', F, pa⟩ := pl.ex
      obtain ⟨F', r2, _⟩ := pa.2.1.tail
      exact r2.fz1.intI
    subst ew
    exact ix_val pl hy k)
end Q

set_option Elab.async false
set_option linter.all false
set_option maxRecDepth 100000
set_option maxHeartbeats 4000000
/-! Lists, slices, comparisons. -/
namespace Q
open PySem PySem.Spec PyProof.Rows L2
abbrev SZ : Nat := 16777216
theorem le_sz {n : Nat} (h : n ≤ SZ) : n ≤ sizeLine := by rw [sizeLine_eq]; exact h

section
variable {K : PySem.W.Frag} {mg : Str → Option Value} {H H' H1 H2 : Hp} {G G' Gv Gv' : Addr → Prop} {O O' O1 O2 F F1 F2 : List Addr} {Z : Addr → Prop} {env env1 env2 : Ev} {σ : L2.St}
theorem Post.wn {v : V} {x : Val} {q : Ql} (p : Post K Z O env σ H v H' x env1 q) : Post K Z O env σ H v H' x env1 q.n := by
  obtain ⟨O', F, a, b, c, d, e, f, g⟩ := p.ex
  exact ⟨O', F, a, b, c, d, e, fun h => f (qn_l h), fun h => (qn_p h).elim⟩
/-- a new owned list of what is left of the values -/
theorem PostAt.newL {vs : List V} {xs : List Val} {ms : List M} {ws : List V} {q : Ql} {p : Addr} (pl : PostAt K Z O env σ H vs H' xs env1 q O' F) (rm : RMs K H' (fun a => ¬ Z a ∧ a ∉ O' ∧ a ∉ F) ws ms F2) (sub : F2.Sublist F) (hn : H' p = none) : Post K Z O env σ H (.ref p) (upd H' p (.lst ws)) (.own (.lst ms)) env1 q.n := by
  obtain ⟨I, r, nd, nz, st, qu, pp⟩ := pl
  have k := upd_keep (o := .lst ws) hn
  have nf : p ∉ F2 := fun z => by
    obtain ⟨o, e, _⟩ := rm.owd p z
    rw [hn] at e; cases e
  have nO : p ∉ O' := fun z => by
    obtain ⟨o, e, _⟩ := I.owd p z
    rw [hn] at e; cases e
  have nZ : ¬ Z p := fun z => by
    obtain ⟨o, e⟩ := I.zt p (.inl z)
    rw [hn] at e; cases e
  have I2 : SI K (Zp Z (p :: F2)) O' env1 σ (upd H' p (.lst ws)) := by
    have key : ∀ {env : Ev} {σ : L2.St} {Fs : List (List Addr)}, Slots K H' (fun a => ¬ Zp Z F a ∧ a ∉ O') env σ Fs → Slots K (upd H' p (.lst ws)) (fun a => ¬ Zp Z (p :: F2) a ∧ a ∉ O') env σ Fs := by
      intro env σ Fs s
      induction s with
      | nil => exact .nil
      | non _ ih => exact .non ih
      | som h _ ih =>
        refine .som (h.step (O := []) (fun _ z => nomatch z) (fun _ _ z => nomatch z) (fun _ _ z => nomatch z) (fun a o _ e => k a o e) fun a o g e => ⟨fun z => ?_, g.2⟩) ih
        rcases z with z | z
        · exact g.1 (.inl z)
        · rcases List.mem_cons.mp z with z | z
          · rw [z, hn] at e; cases e
          · exact g.1 (.inr (sub.subset z))
    obtain ⟨Fs, s, e⟩ := I.sl
    refine ⟨⟨Fs, key s, e⟩, I.nd, fun a ha z => ?_, fun a z => ?_⟩
    · rcases z with z | z
      · exact I.nz a ha (.inl z)
      · rcases List.mem_cons.mp z with z | z
        · exact nO (z ▸ ha)
        · exact I.nz a ha (.inr (sub.subset z))
    · rcases z with z | z
      · exact (I.zt a (.inl z)).imp fun o q => k a o q
      · rcases List.mem_cons.mp z with z | z
        · exact ⟨_, by rw [z]; exact upd_same⟩
        · exact (I.zt a (.inr (sub.subset z))).imp fun o q => k a o q
  refine ⟨O', p :: F2, I2, ?_, List.nodup_cons.mpr ⟨nf, nd.sublist sub⟩, fun a ha => ?_, ⟨fun a o n e => ?_⟩, fun z a o e => k a o (qu (qn_l z) a o e), fun z => (qn_p z).elim⟩
  · have h := RVs.own (G := fun a => ¬ Z a ∧ a ∉ O' ∧ a ∉ p :: F2) (Gv := fun a => ¬ Z a) (RM.lst (G := fun a => ¬ Z a ∧ a ∉ O' ∧ a ∉ p :: F2) (upd_same (H := H') (a := p) (o := .lst ws)) (rm.step (O := []) (H' := upd H' p (.lst ws)) (G' := fun a => ¬ Z a ∧ a ∉ O' ∧ a ∉ p :: F2) (fun _ z => nomatch z) (fun _ _ z => nomatch z) (fun _ _ z => nomatch z) (fun a o _ e => k a o e) fun a o g e => ⟨g.1, g.2.1, fun z => ?_⟩)) .nil
    · simpa using h
    · rcases List.mem_cons.mp z with z | z
      · rw [z, hn] at e; cases e
      · exact g.2.2 (sub.subset z)
  · rcases List.mem_cons.mp ha with z | z
    · rw [z]; exact nZ
    · exact nz a (sub.subset z)
  · obtain ⟨e1, n1, n2⟩ := st.keep a o n e
    refine ⟨k a o e1, n1, fun z => ?_⟩
    rcases List.mem_cons.mp z with z | z
    · rw [z, hn] at e1; cases e1
    · exact n2 (sub.subset z)
/-- a new frozen tuple -/
theorem PostAt.newT {vs : List V} {xs : List Val} {ds : List PyData} {ws : List V} {q : Ql} {p : Addr} (pl : PostAt K Z O env σ H vs H' xs env1 q O' F) (rf : RFs K H' (fun a => ¬ Z a ∧ a ∉ O' ∧ a ∉ F) ws ds) (hn : H' p = none) {o : Obj} (ho : o.dict = none) : Post K Z O env σ H (.ref p) (upd H' p (TF o ws)) (.own (.fz (.tuple ds))) env1 q.n := by
  obtain ⟨I, r, nd, nz, st, qu, pp⟩ := pl
  have k := upd_keep (o := TF o ws) hn
  refine ⟨O', [], by rw [Zp_nil]; exact (I.grow k).weak fun a z => .inl z, .own (.fz (.tup (.inl ⟨o, upd_same, ho⟩) ((rf.grow k).imp fun a h => ⟨h.1, h.2.1, fun z => nomatch z⟩))) .nil, List.Pairwise.nil, (fun _ z => nomatch z), ⟨fun a o n e => ?_⟩, fun z a o e => k a o (qu (qn_l z) a o e), fun z => (qn_p z).elim⟩
  obtain ⟨e1, n1, n2⟩ := st.keep a o n e
  exact ⟨k a o e1, n1, fun z => nomatch z⟩
/-- a list's frozen items; a tuple's -/
def lv : Val → Option (List PyData)
  | .own (.fz (.list ds)) => some ds
  | .own (.lst ms) => leaves ms
  | .vw (.lst ms) => leaves ms
  | _ => none
def tv : Val → Option (List PyData)
  | .own (.fz (.tuple ds)) => some ds
  | _ => none
theorem RVs.lv {v : V} {vs : List V} {x : Val} {xs : List Val} {ds : List PyData} (r : RVs K H G Gv (v :: vs) (x :: xs) F) (e : lv x = some ds) : ∃ a ws, v = .ref a ∧ L2.Rd H a (.lst ws) ∧ RFs K H G ws ds := by
  unfold Q.lv at e
  split at e
  · cases e
    cases r.fz1 with
    | lst hq hg rs => exact ⟨_, _, rfl, hq, rs⟩
  · obtain ⟨F', r0, _⟩ := r.own1
    cases r0 with
    | lst hq rs => exact ⟨_, _, rfl, .inl hq, (rs.leaf e).1⟩
  · obtain ⟨F', r0, _⟩ := r.vw1
    cases r0 with
    | lst hq rs => exact ⟨_, _, rfl, .inl hq, (rs.leaf e).1⟩
  · cases e
theorem RVs.tv {v : V} {vs : List V} {x : Val} {xs : List Val} {ds : List PyData} (r : RVs K H G Gv (v :: vs) (x :: xs) F) (e : tv x = some ds) : ∃ a ws, v = .ref a ∧ SqN K H a ws ∧ RFs K H G ws ds := by
  unfold Q.tv at e
  split at e
  · cases e
    cases r.fz1 with
    | tup hq rs => exact ⟨_, _, rfl, hq, rs⟩
  · cases e
theorem RFs.append : ∀ {vs ws : List V} {ds es : List PyData}, RFs K H G vs ds → RFs K H G ws es → RFs K H G (vs ++ ws) (ds ++ es)
  | _, _, _, _, .nil, r => r
  | _, _, _, _, .cons h r, r' => .cons h (RFs.append r r')
theorem RFs.take : ∀ {vs : List V} {ds : List PyData} (n : Nat), RFs K H G vs ds → RFs K H G (vs.take n) (ds.take n)
  | _, _, 0, _ => .nil
  | _, _, _ + 1, .nil => .nil
  | _, _, n + 1, .cons h r => .cons h (RFs.take n r)
theorem RFs.drop : ∀ {vs : List V} {ds : List PyData} (n : Nat), RFs K H G vs ds → RFs K H G (vs.drop n) (ds.drop n)
  | _, _, 0, r => r
  | _, _, _ + 1, .nil => .nil
  | _, _, n + 1, .cons h r => RFs.drop n r
theorem RFs.repl {vs : List V} {ds : List PyData} (r : RFs K H G vs ds) : ∀ n : Nat, RFs K H G (List.replicate n vs).flatten (List.replicate n ds).flatten
  | 0 => .nil
  | n + 1 => by
    rw [List.replicate_succ, List.replicate_succ, List.flatten_cons, List.flatten_cons]
    exact r.append (RFs.repl r n)
theorem RFs.revAux : ∀ {vs ws : List V} {ds es : List PyData}, RFs K H G vs ds → RFs K H G ws es → RFs K H G (vs.reverseAux ws) (ds.reverseAux es)
  | _, _, _, _, .nil, s => s
  | _, _, _, _, .cons h r, s => by
    have := RFs.revAux r (.cons h s)
    exact this
theorem RFs.reverse {vs : List V} {ds : List PyData} (r : RFs K H G vs ds) : RFs K H G vs.reverse ds.reverse := RFs.revAux r .nil
mutual
theorem RF.dp : ∀ {v : V} {d : PyData}, RF K H G v d → Dp K H v d
  | _, _, .non => .non
  | _, _, .bl b => .bl b
  | _, _, .int i => .int i
  | _, _, .str x => .str x
  | _, _, .lst h _ r => .lst (.inl h) (RFs.dp r)
  | _, _, .tup h r => .tup h.t (RFs.dp r)
theorem RFs.dp : ∀ {vs : List V} {ds : List PyData}, RFs K H G vs ds → DpAll K H vs ds
  | _, _, .nil => .nil
  | _, _, .cons h r => .cons (RF.dp h) (RFs.dp r)
end
/-! ### slices -/
def cutD {α : Type} (xs : List α) (lo hi : Option Int) : List α := (xs.drop (HT.sIx xs.length 0 lo)).take (HT.sIx xs.length xs.length hi - HT.sIx xs.length 0 lo)
def slV (x : Val) (lo hi : Option Int) : Option Val :=
  match x with
  | .own (.fz (.tuple ds)) => some (.own (.fz (.tuple (cutD ds lo hi))))
  | .own (.fz (.str z)) => if z.length ≤ SZ then some (.own (.fz (.str (cutS z lo hi)))) else none
  | x => (lv x).map fun ds => .own (.lst ((cutD ds lo hi).map .fz))
def rSl (K : PySem.W.Frag) : V → Option Int → Option Int → Hp → VK → Prop := fun x lo hi H Q => rSlL K x lo hi H Q ∨ rSlX K x lo hi H Q ∨ rSlS x lo hi H Q
theorem sl_any {X : Cx} : SlR X (rSl X.K) := sl_list.or (sl_tupX.or sl_str)
theorem RFs.cut {vs : List V} {ds : List PyData} (r : RFs K H G vs ds) (lo hi : Option Int) : RFs K H G (cutV vs lo hi) (cutD ds lo hi) := by
  unfold cutV cutD
  rw [r.length]
  exact (r.drop _).take _
theorem cut_whole {α : Type} {xs : List α} {lo hi : Option Int} (h : HT.sIx xs.length 0 lo = 0 ∧ HT.sIx xs.length xs.length hi = xs.length) : cutD xs lo hi = xs := by
  unfold cutD
  rw [h.1, h.2]
  simp
theorem sl_val {Q : VK} {v : V} {x : Val} {xs : List Val} {vs : List V} {lo hi : Option Int} {y : Val} {q : Ql} (pl : PostL K Z O env σ H (v :: vs) H' (x :: xs) env1 q) (hy : slV x lo hi = some y) (h : ∀ v' H'', Post K Z O env σ H v' H'' y env1 q.n → Q v' H'') : rSl K v lo hi H' Q := by
  obtain ⟨O', F, pa⟩ := pl.ex
  have rr := pa.2.1
  have lst : ∀ ds, lv x = some ds → y = .own (.lst ((cutD ds lo hi).map .fz)) → rSl K v lo hi H' Q := fun ds e ey => by
    subst ey
    obtain ⟨a, ws, rfl, hr, rs⟩ := rr.lv e
    exact .inl ⟨a, ws, rfl, .inl hr, fun p hn => h _ _ (pa.newL (rs.cut lo hi).tms (List.nil_sublist _) hn)⟩
  unfold slV at hy
  split at hy
  · rename_i ds
    cases hy
    cases rr.fz1 with
    | tup hq rs =>
      refine .inr (.inl ⟨_, _, rfl, hq.t, fun hw => ?_, fun hw p o hn ho => h _ _ (pa.newT (rs.cut lo hi) hn ho)⟩)
      rw [rs.length] at hw
      have := cut_whole hw
      rw [this] at h
      exact h _ _ (Post.wn (pa.keepF (.tup hq rs)))
  · rename_i z
    split at hy
    · rename_i hz
      cases hy
      have e := rr.fz1.strI
      subst e
      exact .inr (.inr ⟨z, rfl, le_sz hz, h _ _ (Post.wn (pa.keepF (.str _)))⟩)
    · cases hy
  · obtain ⟨ds, e, ey⟩ := Option.map_eq_some_iff.mp hy
    exact lst ds e ey.symm
end
def kSl1 (b : Bool) : List Val → Option Val
  | [x, .own (.fz (.int i))] => if b = true then slV x (some i) none else slV x none (some i)
  | _ => none
def kSl2 : List Val → Option Val
  | [x, .own (.fz (.int i)), .own (.fz (.int j))] => slV x (some i) (some j)
  | _ => none
def kSl0 : List Val → Option Val
  | [x] => slV x none none
  | _ => none
section
variable {X : Cx} {f g k : Ev → Res} {e lo hi : Expr} {pos p2 : Pos}
theorem tu_three {K : PySem.W.Frag} {mg : Str → Option Value} {W : WX} {f g k : Ev → Res} {σ : L2.St} {H : Hp} {R : V → V → V → Hp → Prop}
    (h : TUL K mg W (evs [f, g, k]) σ H fun vs H2 => ∀ u v w, vs = [u, v, w] → R u v w H2) : TU K mg W f σ H fun u H1 => TU K mg W g σ H1 fun v H2 => TU K mg W k σ H2 fun w H3 => R u v w H3 := by
  have mono : ∀ {f : Ev → Res} {σ H} {Q Q' : VK}, TU K mg W f σ H Q → (∀ v H', Q v H' → Q' v H') → TU K mg W f σ H Q' := fun {f σ H Q Q'} ⟨Z, O, env, I, h⟩ qq => by
    refine ⟨Z, O, env, I, ?_⟩
    cases e : f env with
    | stuck => rw [e] at h; exact h
    | exn c e1 => rw [e] at h; exact h
    | ok x e1 q => rw [e] at h; exact fun v H' p => qq v H' (h v H' p)
  refine mono (tu_cons h) fun u H1 h1 => ?_
  refine mono (tu_cons h1) fun v H2 h2 => ?_
  refine mono (tu_cons h2) fun w H3 h3 => ?_
  exact tul_nil h3 u v w rfl
theorem second_int {K : PySem.W.Frag} {Z : Addr → Prop} {O : List Addr} {env env1 : Ev} {σ : L2.St} {H H' : Hp} {v w : V} {vs : List V} {x : Val} {i : Int} {xs : List Val} {q : Ql} (pl : PostL K Z O env σ H (v :: w :: vs) H' (x :: .own (.fz (.int i)) :: xs) env1 q) : w = .int i := by
  obtain ⟨O', F, pa⟩ := pl.ex
  obtain ⟨F', r2, _⟩ := pa.2.1.tail
  exact r2.fz1.intI
theorem third_int {K : PySem.W.Frag} {Z : Addr → Prop} {O : List Addr} {env env1 : Ev} {σ : L2.St} {H H' : Hp} {v w u : V} {vs : List V} {x y : Val} {i : Int} {xs : List Val} {q : Ql} (pl : PostL K Z O env σ H (v :: w :: u :: vs) H' (x :: y :: .own (.fz (.int i)) :: xs) env1 q) : u = .int i := by
  obtain ⟨O', F, pa⟩ := pl.ex
  obtain ⟨F', r2, _⟩ := pa.2.1.tail
  obtain ⟨F', r3, _⟩ := r2.tail
  exact r3.fz1.intI
/-- e[lo:] -/
theorem se_slL (he : SE X f e) (hl : SE X g lo) : SE X (dF Ql.n (kSl1 true) [f, g]) (.Subscript e (.Slice (some lo) none none p2) pos) := fun W tk =>
  PE.imp (pe_slice sl_any (he W tk) (po_some (hl W tk)) po_none) fun σ H Q h => tu_two (tul_F h fun Z O env env' q xs y I hk hlen vs H' pl kk v w ev => by
    subst ev
    unfold kSl1 at hk
    split at hk
    · rename_i x i
      rw [if_pos rfl] at hk
      exact ⟨i, second_int pl, sl_val pl hk kk⟩
    · cases hk)
/-- e[:hi] -/
theorem se_slH (he : SE X f e) (hl : SE X g hi) : SE X (dF Ql.n (kSl1 false) [f, g]) (.Subscript e (.Slice none (some hi) none p2) pos) := fun W tk =>
  PE.imp (pe_slice sl_any (he W tk) po_none (po_some (hl W tk))) fun σ H Q h => tu_two (tul_F h fun Z O env env' q xs y I hk hlen vs H' pl kk v w ev => by
    subst ev
    unfold kSl1 at hk
    split at hk
    · rename_i x i
      rw [if_neg (by decide)] at hk
      exact ⟨i, second_int pl, sl_val pl hk kk⟩
    · cases hk)
/-- an int is asked -/
def isInt : Val → Option Int
  | .own (.fz (.int i)) => some i
  | _ => none
theorem isInt_some {x : Val} {i : Int} (h : isInt x = some i) : x = .own (.fz (.int i)) := by
  unfold isInt at h
  split at h
  · cases h; rfl
  · cases h
def dInt (g : Ev → Res) : Ev → Res := fun env => match g env with
  | .ok x e q => (match isInt x with
    | some _ => .ok x e q
    | none => .stuck)
  | .exn c e => .exn c e
  | .stuck => .stuck
theorem tu_mono {K : PySem.W.Frag} {mg : Str → Option Value} {W : WX} {f : Ev → Res} {σ : L2.St} {H : Hp} {Q Q' : VK} (h : TU K mg W f σ H Q) (qq : ∀ v H', Q v H' → Q' v H') : TU K mg W f σ H Q' := by
  obtain ⟨Z, O, env, I, h⟩ := h
  refine ⟨Z, O, env, I, ?_⟩
  cases e : f env with
  | stuck => rw [e] at h; exact h
  | exn c e1 => rw [e] at h; exact h
  | ok x e1 q => rw [e] at h; exact fun v H' p => qq v H' (h v H' p)
theorem tu_int {K : PySem.W.Frag} {mg : Str → Option Value} {W : WX} {g : Ev → Res} {σ : L2.St} {H : Hp} {Q : VK} (h : TU K mg W (dInt g) σ H Q) : TU K mg W g σ H fun v H' => ∃ i, v = .int i ∧ Q v H' := by
  obtain ⟨Z, O, env, I, h⟩ := h
  refine ⟨Z, O, env, I, ?_⟩
  unfold dInt at h
  cases e : g env with
  | stuck => simp only [e] at h
  | exn c e1 => simp only [e] at h; exact h
  | ok x e1 q =>
    simp only [e] at h
    intro v H' p
    cases hx : isInt x with
    | none => simp only [hx] at h
    | some i =>
      simp only [hx] at h
      have ev : v = .int i := by
        obtain ⟨O', F, pa⟩ := p.ex
        have rr := pa.2.1
        rw [isInt_some hx] at rr
        exact rr.fz1.intI
      exact ⟨i, ev, h v H' p⟩
theorem se_dInt (he : SE X g e) : SE X (dInt g) e := fun W tk => PE.imp (he W tk) fun σ H Q h => tu_mono (tu_int h) fun v H' q => by
  obtain ⟨_, _, q⟩ := q
  exact q
/-- e[lo:hi] -/
theorem se_slLH (he : SE X f e) (hl : SE X g lo) (hh : SE X k hi) : SE X (dF Ql.n kSl2 [f, dInt g, dInt k]) (.Subscript e (.Slice (some lo) (some hi) none p2) pos) := fun W tk =>
  PE.imp (pe_slice sl_any (he W tk) (po_some (hl W tk)) (po_some (hh W tk))) fun σ H Q h => by
    have h3 := tu_three (R := fun u v w H3 => ∀ i j, v = .int i → w = .int j → rSl X.K u (some i) (some j) H3 Q) (tul_F h fun Z O env env' q xs y I hk hlen vs H' pl kk u v w ev i j ei ej => by
      subst ev
      unfold kSl2 at hk
      split at hk
      · rename_i x i' j'
        have e1 := second_int pl
        have e2 := third_int pl
        rw [ei] at e1; cases e1
        rw [ej] at e2; cases e2
        exact sl_val pl hk kk
      · cases hk)
    refine tu_mono h3 fun u H1 h1 => ?_
    refine tu_mono (tu_int h1) fun v H2 h2 => ?_
    obtain ⟨i, ei, h2⟩ := h2
    refine ⟨i, ei, tu_mono (tu_int h2) fun w H3 h3 => ?_⟩
    obtain ⟨j, ej, h3⟩ := h3
    exact ⟨j, ej, h3 i j ei ej⟩
/-- e[:] -/
theorem se_sl0 (he : SE X f e) : SE X (dF Ql.n kSl0 [f]) (.Subscript e (.Slice none none none p2) pos) := fun W tk =>
  PE.imp (pe_slice sl_any (he W tk) po_none po_none) fun σ H Q h => tu_one (tul_F h fun Z O env env' q xs y I hk hlen vs H' pl kk v ev => by
    subst ev
    unfold kSl0 at hk
    split at hk
    · exact sl_val pl hk kk
    · cases hk)
end
end Q

set_option Elab.async false
set_option linter.all false
set_option maxRecDepth 100000
set_option maxHeartbeats 4000000
/-! +, *, ==, in, is; tests. -/
namespace Q
open PySem PySem.Spec PyProof.Rows L2

def Ql.f (b : Bool) (q : Ql) : Ql := match b with
  | true => q.n
  | false => q
/-- what is made of a row of values; true: something new -/
def dG (k : List Val → Option (Val × Bool)) (fs : List (Ev → Res)) : Ev → Res := fun env => match evs fs env with
  | .ok xs env' q => (match k xs with
    | some (y, b) => .ok y env' (q.f b)
    | none => .stuck)
  | .exn c env' => .exn c env'
  | .stuck => .stuck
section
variable {K : PySem.W.Frag} {mg : Str → Option Value} {H H' H1 H2 : Hp} {G G' Gv Gv' : Addr → Prop} {O O' O1 O2 F F1 F2 : List Addr} {Z : Addr → Prop} {env env1 env2 : Ev} {σ : L2.St}
theorem tul_G {W : WX} {k : List Val → Option (Val × Bool)} {fs : List (Ev → Res)} {R : List V → Hp → Prop} {Q : VK} (h : TU K mg W (dG k fs) σ H Q)
    (c : ∀ Z O env env' q xs y b, SI K Z O env σ H → k xs = some (y, b) → xs.length = fs.length → ∀ vs H', PostL K Z O env σ H vs H' xs env' q → (∀ v'' H'', Post K Z O env σ H v'' H'' y env' (q.f b) → Q v'' H'') → R vs H') : TUL K mg W (evs fs) σ H R := by
  obtain ⟨Z, O, env, I, h⟩ := h
  refine ⟨Z, O, env, I, ?_⟩
  unfold dG at h
  cases e : evs fs env with
  | stuck => rw [e] at h; exact h
  | exn c env' => rw [e] at h; exact h
  | ok xs env' q =>
    rw [e] at h
    intro vs H' p
    cases e2 : k xs with
    | none => simp only [e2] at h
    | some yb =>
      obtain ⟨y, b⟩ := yb
      simp only [e2] at h
      exact c Z O env env' q xs y b I e2 (evs_len e) vs H' p h
end
/-- an operator upon values, by its rule -/
def OpV (X : Cx) (f : Value → Value → Sem Value) (k : List Val → Option (Val × Bool)) : Prop :=
  ∃ r, OpR X f r ∧ ∀ Z O env env' σ H H' v w x y z b q Q, PostL X.K Z O env σ H [v, w] H' [x, y] env' q → k [x, y] = some (z, b) → (∀ v' H'', Post X.K Z O env σ H v' H'' z env' (q.f b) → Q v' H'') → r v w H' Q
theorem OpV.or {X : Cx} {f : Value → Value → Sem Value} {k1 k2 : List Val → Option (Val × Bool)} (h1 : OpV X f k1) (h2 : OpV X f k2) : OpV X f (fun xs => (k1 xs).orElse fun _ => k2 xs) := by
  obtain ⟨r1, a1, b1⟩ := h1
  obtain ⟨r2, a2, b2⟩ := h2
  refine ⟨_, a1.or a2, fun Z O env env' σ H H' v w x y z b q Q pl he kk => ?_⟩
  have he : (k1 [x, y]).orElse (fun _ => k2 [x, y]) = some (z, b) := he
  cases e : k1 [x, y] with
  | some d2 =>
    rw [e] at he
    obtain rfl : d2 = (z, b) := Option.some.inj he
    exact .inl (b1 Z O env env' σ H H' v w x y z b q Q pl e kk)
  | none =>
    rw [e] at he
    exact .inr (b2 Z O env env' σ H H' v w x y z b q Q pl he kk)
def kPl (op : List PyData → Option PyData) (xs : List Val) : Option (Val × Bool) := ((valDs xs).bind op).map fun d => (.own (.fz d), false)
theorem OpD.v {X : Cx} {f : Value → Value → Sem Value} {op : List PyData → Option PyData} (h : OpD X f op) : OpV X f (kPl op) := by
  obtain ⟨r, h1, h2⟩ := h
  refine ⟨r, h1, fun Z O env env' σ H H' v w x y z b q Q pl he kk => ?_⟩
  obtain ⟨d, e2, e5⟩ := Option.map_eq_some_iff.mp he
  cases e5
  obtain ⟨ds, e3, e4⟩ := Option.bind_eq_some_iff.mp e2
  obtain ⟨O', F, I', rr, _⟩ := pl.ex
  exact h2 v w H' Q ds d (rr.data e3) e4 fun v' rv => kk v' H' (pl.plain rv)
theorem se_binV {X : Cx} {op : Operator} {k : List Val → Option (Val × Bool)} {f g : Ev → Res} {a b : Expr} {pos : Pos} (ho : OpV X (binaryOp op) k) (ha : SE X f a) (hb : SE X g b) : SE X (dG k [f, g]) (.BinOp a op b pos) := fun W tk => by
  obtain ⟨r, h1, h2⟩ := ho
  refine PE.imp (pe_op h1 (ha W tk) (hb W tk)) fun σ H Q h => tu_two (tul_G h fun Z O env env' q xs y b I hk hl vs H' pl kk v w ev => ?_)
  subst ev
  match xs, hl, hk, pl with
  | [x1, x2], _, hk, pl => exact h2 Z O env env' σ H H' v w x1 x2 y b q Q pl hk kk
/-! ### + -/
def kAddP : List Val → Option (Val × Bool) := kPl fun
  | [.int i, .int j] => some (.int (i + j))
  | [.str a, .str b] => if a.length + b.length ≤ SZ then some (.str (a ++ b)) else none
  | _ => none
def kAddT : List Val → Option (Val × Bool)
  | [x, y] => (tv x).bind fun a => (tv y).bind fun b => if a.length + b.length ≤ SZ then some (.own (.fz (.tuple (a ++ b))), true) else none
  | _ => none
def kAddL : List Val → Option (Val × Bool)
  | [x, y] => (lv x).bind fun a => (lv y).bind fun b => if a.length + b.length ≤ SZ then some (.own (.lst ((a ++ b).map .fz)), true) else none
  | _ => none
def kAdd (xs : List Val) : Option (Val × Bool) := (kAddP xs).orElse fun _ => (kAddT xs).orElse fun _ => kAddL xs
section
variable {X : Cx}
theorem rd_lstM {pins : List (Addr × Obj)} {σ : L2.St} {H : Hp} {s : Shared} {l : Addr} {xs : List V} (I : Inv X pins σ H s) (hH : L2.Rd H l (.lst xs)) : xs.length ≤ sizeLine ∧ ∃ (its : List Value) (n : Nat), Vals xs its ∧ xs.length = its.length ∧ s.heap.get? l = some { cls := .type "list", data := .seq its.toArray n } := by
  obtain ⟨z, its, n, r, e⟩ := hH.ok I.hok
  exact ⟨z, its, n, r, r.length, e⟩
theorem op_catR : OpR X (binaryOp .Add) (fun x y H Q => ∃ l b xs zs, x = .ref l ∧ y = .ref b ∧ L2.Rd H l (.lst xs) ∧ L2.Rd H b (.lst zs) ∧ xs.length + zs.length ≤ sizeLine ∧ ∀ p, H p = none → Q (.ref p) (upd H p (.lst (xs ++ zs)))) := by
  intro pins s σ H x y v u Q I rx ry h
  obtain ⟨l, b, xs, zs, rfl, rfl, hH, hB, hz, q⟩ := h
  cases rx
  cases ry
  obtain ⟨z, its, n, r, hl, e⟩ := rd_lstM I hH
  obtain ⟨z2, its2, n2, r2, hl2, e2⟩ := rd_lstM I hB
  refine PySem.P.add_list e e2 ?_ (by rw [List.size_toArray, List.size_toArray]; omega)
  have ea : its.toArray ++ its2.toArray = (its ++ its2).toArray := by simp
  rw [ea]
  exact ⟨.ref _, _, I.lnew (t' := s.toks) (r.append r2) (by rw [List.length_append]; omega), rfl, q _ I.fresh⟩
theorem opd_addP : OpD X (binaryOp .Add) (fun
  | [.int i, .int j] => some (.int (i + j))
  | [.str a, .str b] => if a.length + b.length ≤ SZ then some (.str (a ++ b)) else none
  | _ => none) := by
  refine ⟨_, op_add.or op_add_str, fun v w H Q ds d hd he k => ?_⟩
  dsimp only at he
  split at he
  · cases he
    obtain ⟨r1, r2⟩ := hd.two
    exact .inl ⟨_, _, r1.intI, r2.intI, k _ fun G => .int _⟩
  · split at he
    · rename_i hz
      cases he
      obtain ⟨r1, r2⟩ := hd.two
      exact .inr ⟨_, _, r1.strI, r2.strI, le_sz hz, k _ fun G => .str _⟩
    · cases he
  · cases he
theorem opv_addT : OpV X (binaryOp .Add) kAddT := by
  refine ⟨_, op_catX, fun Z O env env' σ H H' v w x y z b q Q pl he kk => ?_⟩
  unfold kAddT at he
  obtain ⟨da, ea, he⟩ := Option.bind_eq_some_iff.mp he
  obtain ⟨db, eb, he⟩ := Option.bind_eq_some_iff.mp he
  split at he
  · rename_i hz
    cases he
    obtain ⟨O', F, pa⟩ := pl.ex
    obtain ⟨a, ws, rfl, h1, r1⟩ := pa.2.1.tv ea
    obtain ⟨F', rt, _⟩ := pa.2.1.tail
    obtain ⟨a2, ws2, rfl, h2, r2⟩ := rt.tv eb
    refine ⟨a, a2, ws, ws2, rfl, rfl, h1.t, h2.t, by rw [r1.length, r2.length]; exact le_sz hz, fun e => ?_, fun _ e => ?_, fun _ _ p o hn ho => kk _ _ (pa.newT (r1.append r2) hn ho)⟩
    · subst e
      cases r1
      exact kk _ _ (Post.wn (pa.keepF (.tup h2 r2)))
    · subst e
      cases r2
      rw [List.append_nil] at kk
      exact kk _ _ (Post.wn (pa.keepF (.tup h1 r1)))
  · cases he
theorem opv_addL : OpV X (binaryOp .Add) kAddL := by
  refine ⟨_, op_catR, fun Z O env env' σ H H' v w x y z b q Q pl he kk => ?_⟩
  unfold kAddL at he
  obtain ⟨da, ea, he⟩ := Option.bind_eq_some_iff.mp he
  obtain ⟨db, eb, he⟩ := Option.bind_eq_some_iff.mp he
  split at he
  · rename_i hz
    cases he
    obtain ⟨O', F, pa⟩ := pl.ex
    obtain ⟨a, ws, rfl, h1, r1⟩ := pa.2.1.lv ea
    obtain ⟨F', rt, _⟩ := pa.2.1.tail
    obtain ⟨a2, ws2, rfl, h2, r2⟩ := rt.lv eb
    exact ⟨a, a2, ws, ws2, rfl, rfl, h1, h2, by rw [r1.length, r2.length]; exact le_sz hz, fun p hn => kk _ _ (pa.newL (r1.append r2).tms (List.nil_sublist _) hn)⟩
  · cases he
theorem opv_add : OpV X (binaryOp .Add) kAdd := (OpD.v opd_addP).or (opv_addT.or opv_addL)
/-! ### * -/
def kMulP : List Val → Option (Val × Bool) := kPl oMulI
def kMulL : List Val → Option (Val × Bool)
  | [x, .own (.fz (.int k))] => (lv x).bind fun a => if decide (-(2 ^ 63) ≤ k) && decide (k < 2 ^ 63) && decide (a.length * k.toNat ≤ SZ) then some (.own (.lst ((List.replicate k.toNat a).flatten.map .fz)), true) else none
  | _ => none
def kMulT : List Val → Option (Val × Bool)
  | [x, .own (.fz (.int k))] => (tv x).bind fun a => if decide (a ≠ []) && decide (2 ≤ k) && decide (k ≤ 1000) && decide (a.length ≤ 1000) then some (.own (.fz (.tuple (List.replicate k.toNat a).flatten)), true) else none
  | _ => none
def kMul (xs : List Val) : Option (Val × Bool) := (kMulP xs).orElse fun _ => (kMulL xs).orElse fun _ => kMulT xs
theorem op_repR : OpR X (binaryOp .Mult) (fun x y H Q => ∃ l k xs, x = .ref l ∧ y = .int k ∧ L2.Rd H l (.lst xs) ∧ -(2 ^ 63) ≤ k ∧ k < 2 ^ 63 ∧ xs.length * k.toNat ≤ sizeLine ∧
  ∀ p, H p = none → Q (.ref p) (upd H p (.lst (List.replicate k.toNat xs).flatten))) := by
  intro pins s σ H x y v u Q I rx ry h
  obtain ⟨l, k, xs, rfl, rfl, hH, h1, h2, hz, q⟩ := h
  cases rx
  obtain ⟨t, rfl⟩ := ry
  obtain ⟨z, its, n, r, hl, e⟩ := rd_lstM I hH
  have hlen : its.toArray.size * k.toNat ≤ sizeLine := by rw [List.size_toArray, ← hl]; exact hz
  have hcap : ¬ its.toArray.size * k.toNat > (2 ^ 63 - 1) / 8 := by
    have : (sizeLine : Nat) ≤ (2 ^ 63 - 1) / 8 := by decide
    omega
  have hfit : ¬ (!Builtin.List.listFitsIndex k) = true := by
    rw [fitsIndex_both h1 h2]
    exact Bool.false_ne_true
  have hlong : ¬ Builtin.List.listTooLong (its.toArray.size * k.toNat) = true := by
    rw [notLongL hlen]
    exact Bool.false_ne_true
  have hnew : List.foldl (fun x1 x2 => x1 ++ x2) #[] (List.replicate (if its.toArray.isEmpty = true then 0 else k.toNat) its.toArray) = (List.replicate k.toNat its).flatten.toArray := by
    have f0 : ∀ m : Nat, List.foldl (fun x1 x2 => x1 ++ x2) #[] (List.replicate m its.toArray) = (List.replicate m its).flatten.toArray := fun m => by
      have := foldl_rep its m []
      rw [List.nil_append] at this
      exact this
    rw [f0]
    cases its with
    | nil => simp
    | cons a r' => rw [if_neg (by simp)]
  refine wpAny_binaryOp_repeat_ref (T := "list") (U := "int") (by decide) ⟨_, e, rfl⟩ (fun s' => typeIs_int s' k t) noFill_list_mul F.fills_int_mul F.slot_int_rmul repeat_list F.slot_int_index.lookup
    (call_meets F.slot_int_rmul (typeIs_int s k t) F.entry_int_rmul (F.args_int_rmul_2 _ _) (int___rmul___int_list k t l its.toArray n)
      ⟨e, rfl, ⟨_, e, rfl⟩, call_meets F.slot_list_mul ⟨_, e, rfl⟩ F.entry_list_mul (F.args_list_mul_2 _ _) (AutoListH.list___mul___list_int_3 l its.toArray n k t hfit hcap hlong) ⟨e, ?_⟩⟩)
  rw [hnew]
  exact ⟨.ref _, _, I.lnew (t' := s.toks) (r.rep k.toNat) (by rw [PyProof.Rows.lm_len_rep_flat, Nat.mul_comm]; exact hz), rfl, q _ I.fresh⟩
theorem opv_mulL : OpV X (binaryOp .Mult) kMulL := by
  refine ⟨_, op_repR, fun Z O env env' σ H H' v w x y z b q Q pl he kk => ?_⟩
  unfold kMulL at he
  split at he
  · rename_i heq
    cases heq
    obtain ⟨da, ea, he⟩ := Option.bind_eq_some_iff.mp he
    split at he
    · rename_i hc
      cases he
      simp only [Bool.and_eq_true, decide_eq_true_eq] at hc
      obtain ⟨O', F, pa⟩ := pl.ex
      obtain ⟨a, ws, rfl, h1, r1⟩ := pa.2.1.lv ea
      exact ⟨a, _, ws, rfl, second_int pl, h1, hc.1.1, hc.1.2, by rw [r1.length]; exact le_sz hc.2, fun p hn => kk _ _ (pa.newL (r1.repl _).tms (List.nil_sublist _) hn)⟩
    · cases he
  · cases he
theorem opv_mulT : OpV X (binaryOp .Mult) kMulT := by
  refine ⟨_, op_repX, fun Z O env env' σ H H' v w x y z b q Q pl he kk => ?_⟩
  unfold kMulT at he
  split at he
  · rename_i heq
    cases heq
    obtain ⟨da, ea, he⟩ := Option.bind_eq_some_iff.mp he
    split at he
    · rename_i hc
      cases he
      simp only [Bool.and_eq_true, decide_eq_true_eq] at hc
      obtain ⟨O', F, pa⟩ := pl.ex
      obtain ⟨a, ws, rfl, h1, r1⟩ := pa.2.1.tv ea
      refine ⟨a, _, ws, rfl, second_int pl, h1.t, fun e => hc.1.1.1 ?_, hc.1.1.2, hc.1.2, by rw [r1.length]; exact hc.2, fun p o hn ho => kk _ _ (pa.newT (r1.repl _) hn ho)⟩
      subst e
      cases r1
      rfl
    · cases he
  · cases he
theorem opv_mul : OpV X (binaryOp .Mult) kMul := (OpD.v opd_mulI).or (opv_mulL.or opv_mulT)
/-! ### ==, in, is -/
def scalD : PyData → Bool
  | .none => true | .bool _ => true | .int _ => true | .str _ => true
  | _ => false
def scalP : PyData → PyData → Bool
  | .bool _, .int _ => false
  | .int _, .bool _ => false
  | a, b => scalD a && scalD b
def eqOk (a b : PyData) : Bool := scalP a b || (SeqAt.shaped a && SeqAt.shaped b)
def oEq : List PyData → Option PyData
  | [a, b] => if eqOk a b then some (.bool (PyData.eqv a b)) else none
  | _ => none
def oNe : List PyData → Option PyData
  | [a, b] => if eqOk a b then some (.bool (!PyData.eqv a b)) else none
  | _ => none
theorem scal_of {H : Hp} {K : PySem.W.Frag} {G : Addr → Prop} {a b : PyData} (h : scalP a b = true) {v w : V} (r1 : RF K H G v a) (r2 : RF K H G w b) : scal v w = true ∧ decide (v = w) = PyData.eqv a b := by
  cases r1 <;> cases r2 <;> first
    | (refine ⟨rfl, ?_⟩; simp [PyData.eqv]; done)
    | (refine ⟨rfl, ?_⟩; simp [PyData.eqv, Bool.beq_eq_decide_eq]; done)
    | (exact absurd h (by simp [scalP, scalD]))
theorem opd_eq (hu : X.A.units + 64 < cLine) : OpD X (compareOp .Eq) oEq := by
  refine ⟨_, op_eq.or (op_eqD hu), fun v w H Q ds d hd he k => ?_⟩
  unfold oEq at he
  split at he
  · rename_i a b
    split at he
    · rename_i hc
      cases he
      obtain ⟨r1, r2⟩ := hd.two
      unfold eqOk at hc
      cases hs : scalP a b with
      | true =>
        obtain ⟨s1, s2⟩ := scal_of hs r1 r2
        exact .inl ⟨s1, by rw [s2]; exact k _ fun G => .bl _⟩
      | false =>
        rw [hs, Bool.false_or, Bool.and_eq_true] at hc
        exact .inr ⟨a, b, r1.dp, r2.dp, hc.1, hc.2, k _ fun G => .bl _⟩
    · cases he
  · cases he
theorem opd_ne (hu : X.A.units + 64 < cLine) : OpD X (compareOp .NotEq) oNe := by
  refine ⟨_, op_ne.or (op_neD hu), fun v w H Q ds d hd he k => ?_⟩
  unfold oNe at he
  split at he
  · rename_i a b
    split at he
    · rename_i hc
      cases he
      obtain ⟨r1, r2⟩ := hd.two
      unfold eqOk at hc
      cases hs : scalP a b with
      | true =>
        obtain ⟨s1, s2⟩ := scal_of hs r1 r2
        exact .inl ⟨s1, by rw [s2]; exact k _ fun G => .bl _⟩
      | false =>
        rw [hs, Bool.false_or, Bool.and_eq_true] at hc
        exact .inr ⟨a, b, r1.dp, r2.dp, hc.1, hc.2, k _ fun G => .bl _⟩
    · cases he
  · cases he
def isIn (x : PyData) (ds : List PyData) : Bool := ds.any fun z => PyData.eqv z x
/-- what may be sought in what -/
def oInB : List PyData → Option Bool
  | [x, .list ds] => if scalD x && ds.all scalD then some (isIn x ds) else if SeqAt.shaped x && SeqAt.shaped (.list ds) then some (isIn x ds) else none
  | [x, .tuple ds] => if scalD x && ds.all scalD then some (isIn x ds) else none
  | [.str x, .str z] => some (!(Builtin.Str.occurrences z x 0 z.length 1).isEmpty)
  | _ => none
def oIn (ds : List PyData) : Option PyData := (oInB ds).map .bool
def oNin (ds : List PyData) : Option PyData := (oInB ds).map fun b => .bool !b
theorem flat_of {H : Hp} {K : PySem.W.Frag} {G : Addr → Prop} {a : PyData} (h : scalD a = true) {v : V} (r : RF K H G v a) : flatV v = true := by
  cases r <;> first | rfl | exact absurd h (by simp [scalD])
theorem flats_of {H : Hp} {K : PySem.W.Frag} {G : Addr → Prop} : ∀ {vs : List V} {ds : List PyData}, RFs K H G vs ds → ds.all scalD = true → vs.all flatV = true
  | _, _, .nil, _ => rfl
  | _, _, .cons h r, e => by
    rw [List.all_cons, Bool.and_eq_true] at e
    rw [List.all_cons, flat_of e.1 h, flats_of r e.2]
    rfl
theorem eqV_of {H : Hp} {K : PySem.W.Frag} {G : Addr → Prop} {a b : PyData} (h1 : scalD a = true) (h2 : scalD b = true) {v w : V} (r1 : RF K H G v a) (r2 : RF K H G w b) : eqV v w = PyData.eqv a b := by
  cases r1 <;> cases r2 <;> first
    | (simp [eqV, PyData.eqv]; done)
    | (exact absurd h1 (by simp [scalD]))
    | (exact absurd h2 (by simp [scalD]))
theorem inV_of {H : Hp} {K : PySem.W.Frag} {G : Addr → Prop} {x : PyData} {v : V} (hx : scalD x = true) (r : RF K H G v x) : ∀ {vs : List V} {ds : List PyData}, RFs K H G vs ds → ds.all scalD = true → inV v vs = isIn x ds
  | _, _, .nil, _ => rfl
  | _, _, .cons h t, e => by
    rw [List.all_cons, Bool.and_eq_true] at e
    unfold inV isIn
    rw [List.any_cons, List.any_cons, eqV_of e.1 hx h r]
    congr 1
    exact inV_of hx r t e.2
theorem in_parts {H : Hp} {v w : V} {ds : List PyData} {b : Bool} (hd : RFs X.K H Top [v, w] ds) (he : oInB ds = some b) :
    (∃ p xs, w = .ref p ∧ (SqL X.K H p xs ∨ SqT X.K H p xs) ∧ flatV v = true ∧ xs.all flatV = true ∧ inV v xs = b) ∨ (∃ d es, Dp X.K H v d ∧ Dp X.K H w (.list es) ∧ SeqAt.shaped d = true ∧ SeqAt.shaped (.list es) = true ∧ (es.any fun z => PyData.eqv z d) = b) ∨
      (∃ i j, v = .str i ∧ w = .str j ∧ (!(Builtin.Str.occurrences j i 0 j.length 1).isEmpty) = b) := by
  unfold oInB at he
  split at he
  · obtain ⟨r1, r2⟩ := hd.two
    split at he
    · rename_i hc
      cases he
      rw [Bool.and_eq_true] at hc
      cases r2 with
      | lst h g rs => exact .inl ⟨_, _, rfl, .inl (.inl h), flat_of hc.1 r1, flats_of rs hc.2, inV_of hc.1 r1 rs hc.2⟩
    · split at he
      · rename_i hc
        cases he
        rw [Bool.and_eq_true] at hc
        exact .inr (.inl ⟨_, _, r1.dp, r2.dp, hc.1, hc.2, rfl⟩)
      · cases he
  · obtain ⟨r1, r2⟩ := hd.two
    split at he
    · rename_i hc
      cases he
      rw [Bool.and_eq_true] at hc
      cases r2 with
      | tup h rs => exact .inl ⟨_, _, rfl, .inr h.t, flat_of hc.1 r1, flats_of rs hc.2, inV_of hc.1 r1 rs hc.2⟩
    · cases he
  · cases he
    obtain ⟨r1, r2⟩ := hd.two
    exact .inr (.inr ⟨_, _, r1.strI, r2.strI, rfl⟩)
  · cases he
theorem opd_in (hu : X.A.units + 65 < cLine) : OpD X (compareOp .In) oIn := by
  refine ⟨_, op_in_seq.or ((op_inD hu).or op_in_str), fun v w H Q ds d hd he k => ?_⟩
  obtain ⟨b, eb, rfl⟩ := Option.map_eq_some_iff.mp he
  rcases in_parts hd eb with ⟨p, xs, e1, e2, e3, e4, e5⟩ | ⟨d, es, e1, e2, e3, e4, e5⟩ | ⟨i, j, e1, e2, e3⟩
  · exact .inl ⟨p, xs, e1, e2, e3, e4, by rw [if_neg Bool.false_ne_true, e5]; exact k _ fun G => .bl _⟩
  · exact .inr (.inl ⟨d, es, e1, e2, e3, e4, by rw [e5]; exact k _ fun G => .bl _⟩)
  · exact .inr (.inr ⟨i, j, e1, e2, by rw [e3]; exact k _ fun G => .bl _⟩)
theorem opd_nin (hu : X.A.units + 65 < cLine) : OpD X (compareOp .NotIn) oNin := by
  refine ⟨_, op_notIn_seq.or ((op_notInD hu).or op_notIn_str), fun v w H Q ds d hd he k => ?_⟩
  obtain ⟨b, eb, rfl⟩ := Option.map_eq_some_iff.mp he
  rcases in_parts hd eb with ⟨p, xs, e1, e2, e3, e4, e5⟩ | ⟨d, es, e1, e2, e3, e4, e5⟩ | ⟨i, j, e1, e2, e3⟩
  · exact .inl ⟨p, xs, e1, e2, e3, e4, by rw [if_pos rfl, e5]; exact k _ fun G => .bl _⟩
  · exact .inr (.inl ⟨d, es, e1, e2, e3, e4, by rw [e5]; exact k _ fun G => .bl _⟩)
  · exact .inr (.inr ⟨i, j, e1, e2, by rw [e3]; exact k _ fun G => .bl _⟩)
/-- x is None, x is True -/
def isNonV : Val → Bool
  | .own (.fz .none) => true
  | .vw (.fz .none) => true
  | _ => false
def kIs (n : Bool) : List Val → Option (Val × Bool)
  | [.own (.fz (.bool a)), .own (.fz (.bool b))] => some (.own (.fz (.bool (n != decide (a = b)))), false)
  | [x, .own (.fz .none)] => some (.own (.fz (.bool (n != isNonV x))), false)
  | _ => none
theorem is_parts {Z : Addr → Prop} {O : List Addr} {env env' : Ev} {σ : L2.St} {H H' : Hp} {v w : V} {x y : Val} {q : Ql} {n : Bool} {z : Val} {b : Bool} (pl : PostL X.K Z O env σ H [v, w] H' [x, y] env' q) (he : kIs n [x, y] = some (z, b)) :
    (∃ c d : Bool, v = .bl c ∧ w = .bl d ∧ z = .own (.fz (.bool (n != decide (c = d)))) ∧ b = false) ∨ (w = .non ∧ z = .own (.fz (.bool (n != decide (v = .non)))) ∧ b = false) := by
  obtain ⟨O', F, pa⟩ := pl.ex
  have rr := pa.2.1
  unfold kIs at he
  split at he
  · rename_i heq
    cases heq
    cases he
    obtain ⟨F', rt, _⟩ := rr.tail
    exact .inl ⟨_, _, rr.fz1.blI, rt.fz1.blI, rfl, rfl⟩
  · rename_i heq
    cases heq
    cases he
    obtain ⟨F', rt, _⟩ := rr.tail
    refine .inr ⟨rt.fz1.nonI, ?_, rfl⟩
    have : isNonV x = decide (v = .non) := by
      have hx : ∀ {m : M} {F : List Addr} {G}, RM X.K H' G v m F → decide (v = .non) = (match m with | .fz .none => true | _ => false) := fun r => by
        cases r with
        | fz h => cases h <;> rfl
        | lst _ _ => rfl
        | tup _ _ => rfl
        | dK _ _ => rfl
        | dT _ _ => rfl
      cases x with
      | own m =>
        obtain ⟨F2, r0, _⟩ := rr.own1
        rw [hx r0]
        cases m with
        | fz d => cases d <;> rfl
        | lst _ => rfl
        | tup _ => rfl
        | dK _ _ => rfl
        | dT _ _ => rfl
      | vw m =>
        obtain ⟨F2, r0, _⟩ := rr.vw1
        rw [hx r0]
        cases m with
        | fz d => cases d <;> rfl
        | lst _ => rfl
        | tup _ => rfl
        | dK _ _ => rfl
        | dT _ _ => rfl
    rw [this]
  · cases he
theorem opv_is : OpV X (compareOp .Is) (kIs false) := by
  refine ⟨_, op_isBl.or op_isN, fun Z O env env' σ H H' v w x y z b q Q pl he kk => ?_⟩
  rcases is_parts pl he with ⟨c, d, rfl, rfl, rfl, rfl⟩ | ⟨rfl, rfl, rfl⟩
  · exact .inl ⟨c, d, rfl, rfl, kk _ _ (pl.plain fun G => by rw [Bool.false_bne]; exact .bl _)⟩
  · exact .inr ⟨rfl, kk _ _ (pl.plain fun G => by rw [Bool.false_bne]; exact .bl _)⟩
theorem opv_isnot : OpV X (compareOp .IsNot) (kIs true) := by
  refine ⟨_, op_notBl.or op_notN, fun Z O env env' σ H H' v w x y z b q Q pl he kk => ?_⟩
  rcases is_parts pl he with ⟨c, d, rfl, rfl, rfl, rfl⟩ | ⟨rfl, rfl, rfl⟩
  · exact .inl ⟨c, d, rfl, rfl, kk _ _ (pl.plain fun G => by rw [Bool.true_bne]; exact .bl _)⟩
  · exact .inr ⟨rfl, kk _ _ (pl.plain fun G => by rw [Bool.true_bne]; exact .bl _)⟩
end
theorem se_cmpV {X : Cx} {op : CmpOp} {k : List Val → Option (Val × Bool)} {f g : Ev → Res} {a b : Expr} {pos : Pos} (ho : OpV X (compareOp op) k) (ha : SE X f a) (hb : SE X g b) (hm : behindInMarks op b = false) : SE X (dG k [f, g]) (.Compare a [op] [b] pos) := fun W tk => by
  obtain ⟨r, h1, h2⟩ := ho
  refine PE.imp (pe_cmpR h1 (ha W tk) (hb W tk) hm) fun σ H Q h => tu_two (tul_G h fun Z O env env' q xs y b I hk hl vs H' pl kk v w ev => ?_)
  subst ev
  match xs, hl, hk, pl with
  | [x1, x2], _, hk, pl => exact h2 Z O env env' σ H H' v w x1 x2 y b q Q pl hk kk
end Q

set_option Elab.async false
set_option linter.all false
set_option maxRecDepth 100000
set_option maxHeartbeats 4000000
/-! Tests, and, or, if; calls of built-ins. -/
namespace Q
open PySem PySem.Spec PyProof.Rows L2

/-- a test's reading: its evaluation gives a bool -/
def TUT (K : PySem.W.Frag) (mg : Str → Option Value) (W : WX) (den : Ev → Res) : TT := fun σ H Q => ∃ Z O env, SI K Z O env σ H ∧
  match den env with
  | .ok x env' q => ∃ b, x = .own (.fz (.bool b)) ∧ ∀ H', PostL K Z O env σ H [] H' [] env' q → Q b H'
  | .exn c env' => ∀ cls d H', PostX K mg Z O σ H cls d H' c env' → W cls d σ H'
  | .stuck => False
def ST (X : Cx) (den : Ev → Res) (e : Expr) : Prop := ∀ W, Takes X W → PT X e (TUT X.K X.mg W den)
abbrev EndE (K : PySem.W.Frag) (mg : Str → Option Value) (W : WX) (Z : Addr → Prop) (O : List Addr) (env : Ev) (σ : L2.St) (H : Hp) (Q : VK) (r : Res) : Prop := match r with
  | .ok x env' q => ∀ v H', Post K Z O env σ H v H' x env' q → Q v H'
  | .exn c env' => ∀ cls d H', PostX K mg Z O σ H cls d H' c env' → W cls d σ H'
  | .stuck => False
abbrev EndT (K : PySem.W.Frag) (mg : Str → Option Value) (W : WX) (Z : Addr → Prop) (O : List Addr) (env : Ev) (σ : L2.St) (H : Hp) (Q : Bool → Hp → Prop) (r : Res) : Prop := match r with
  | .ok x env' q => ∃ b, x = .own (.fz (.bool b)) ∧ ∀ H', PostL K Z O env σ H [] H' [] env' q → Q b H'
  | .exn c env' => ∀ cls d H', PostX K mg Z O σ H cls d H' c env' → W cls d σ H'
  | .stuck => False
def STW (X : Cx) (den : Ev → Res) (e : Expr) : Prop := ∀ W, Takes X W → PW X e (TUT X.K X.mg W den)
theorem STW.st {X : Cx} {den : Ev → Res} {e : Expr} (h : STW X den e) : ST X den e := fun W tk => (h W tk).pt
theorem PW.imp {X : Cx} {e : Expr} {t t' : TT} (h : PW X e t) (i : ∀ σ H Q, t' σ H Q → t σ H Q) : PW X e t' := ⟨fun wh pins s σ H Q I q => h.run wh pins s σ H Q I (i σ H Q q)⟩
def Res.q (q : Ql) : Res → Res
  | .ok x e q2 => .ok x e (q.j q2)
  | r => r
/-- the test f, then g or h -/
def dIf (f g h : Ev → Res) : Ev → Res := fun env => match f env with
  | .ok (.own (.fz (.bool b))) e1 q1 => (match b with
    | true => (g e1).q q1
    | false => (h e1).q q1)
  | .ok _ _ _ => .stuck
  | .exn c e => .exn c e
  | .stuck => .stuck
def truthV : Val → Option Bool
  | .own (.fz .none) => some false
  | .own (.fz (.bool b)) => some b
  | .own (.fz (.int i)) => some (i != 0)
  | .own (.fz (.str y)) => if y.length ≤ SZ then some ((y.length : Int) != 0) else none
  | .own (.fz (.list ds)) => some (!ds.isEmpty)
  | .own (.fz (.tuple ds)) => some (!ds.isEmpty)
  | .own (.lst ms) => some (!ms.isEmpty)
  | .own (.tup ms) => some (!ms.isEmpty)
  | .vw (.lst ms) => some (!ms.isEmpty)
  | .vw (.tup ms) => some (!ms.isEmpty)
  | .own (.dK ks _) => some (!ks.isEmpty)
  | .vw (.dK ks _) => some (!ks.isEmpty)
  | _ => none
section
variable {K : PySem.W.Frag} {mg : Str → Option Value} {H H' H1 H2 : Hp} {G G' Gv Gv' : Addr → Prop} {O O' O1 O2 F F1 F2 : List Addr} {Z : Addr → Prop} {env env1 env2 : Ev} {σ : L2.St}
theorem qj_p {q1 q2 : Ql} (e : q1.j q2 = .p) : q1 = .p ∧ q2 = .p := by cases q1 <;> cases q2 <;> simp [Ql.j] at e ⊢
theorem qj_l {q1 q2 : Ql} (e : q1.j q2 ≠ .l) : q1 ≠ .l ∧ q2 ≠ .l := by cases q1 <;> cases q2 <;> simp [Ql.j] at e ⊢
/-- the values are dropped -/
theorem PostL.drop {vs : List V} {xs : List Val} {q : Ql} (p : PostL K Z O env σ H vs H' xs env1 q) : PostL K Z O env σ H [] H' [] env1 q := by
  obtain ⟨O', F, I, _, _, _, st, qu, pp⟩ := p.ex
  exact ⟨O', [], by rw [Zp_nil]; exact I.weak fun a z => .inl z, .nil, List.Pairwise.nil, (fun _ z => nomatch z), st.weak (fun _ z => nomatch z), qu, fun e => ⟨(pp e).1, (pp e).2.1, rfl⟩⟩
theorem PostL.after {q1 : Ql} (p : PostL K Z O env σ H [] H1 [] env1 q1) : ∃ O1, SI K Z O1 env1 σ H1 ∧ Step O H O1 [] H1 ∧ ∀ {vs : List V} {xs : List Val} {H2 : Hp} {env2 : Ev} {q2 : Ql}, PostL K Z O1 env1 σ H1 vs H2 xs env2 q2 → PostL K Z O env σ H vs H2 xs env2 (q1.j q2) := by
  obtain ⟨O1, F1, I1, r1, _, _, st1, qu1, pp1⟩ := p.ex
  obtain ⟨_, rfl⟩ := r1.nilF
  rw [Zp_nil] at I1
  refine ⟨O1, I1, st1, fun {vs xs H2 env2 q2} p2 => ?_⟩
  obtain ⟨O2, F2, I2, r2, nd, nz, st2, qu2, pp2⟩ := p2.ex
  exact ⟨O2, F2, I2, r2, nd, nz, by simpa using st1.trans st2, fun e a o z => qu2 (qj_l e).2 a o (qu1 (qj_l e).1 a o z), fun e => ⟨(pp2 (qj_p e).2).1.trans (pp1 (qj_p e).1).1, (pp2 (qj_p e).2).2.1.trans (pp1 (qj_p e).1).2.1, (pp2 (qj_p e).2).2.2⟩⟩
theorem dIf_cases {f g h : Ev → Res} {env : Ev} {P : Res → Prop} (hs : f env = .stuck ∨ (∃ x e q, f env = .ok x e q ∧ ∀ b, x ≠ .own (.fz (.bool b))) → P .stuck) (hx : ∀ c e, f env = .exn c e → P (.exn c e))
    (ht : ∀ e q, f env = .ok (.own (.fz (.bool true))) e q → P ((g e).q q)) (hf : ∀ e q, f env = .ok (.own (.fz (.bool false))) e q → P ((h e).q q)) : P (dIf f g h env) := by
  unfold dIf
  cases e : f env with
  | stuck => exact hs (.inl e)
  | exn c e1 => exact hx c e1 e
  | ok x e1 q =>
    cases x with
    | vw m => exact hs (.inr ⟨_, _, _, e, fun b z => nomatch z⟩)
    | own m =>
      cases m with
      | fz d =>
        cases d with
        | bool b =>
          cases b with
          | true => exact ht e1 q e
          | false => exact hf e1 q e
        | none => exact hs (.inr ⟨_, _, _, e, fun b z => by cases z⟩)
        | int i => exact hs (.inr ⟨_, _, _, e, fun b z => by cases z⟩)
        | str i => exact hs (.inr ⟨_, _, _, e, fun b z => by cases z⟩)
        | list i => exact hs (.inr ⟨_, _, _, e, fun b z => by cases z⟩)
        | tuple i => exact hs (.inr ⟨_, _, _, e, fun b z => by cases z⟩)
        | dict i => exact hs (.inr ⟨_, _, _, e, fun b z => by cases z⟩)
      | lst xs => exact hs (.inr ⟨_, _, _, e, fun b z => by cases z⟩)
      | tup xs => exact hs (.inr ⟨_, _, _, e, fun b z => by cases z⟩)
      | dK ks xs => exact hs (.inr ⟨_, _, _, e, fun b z => by cases z⟩)
      | dT ks xs => exact hs (.inr ⟨_, _, _, e, fun b z => by cases z⟩)
/-- a branch's end, after the test -/
theorem PostX.then {cls : Value} {d : Option Addr} {c : Exn} {O1 : List Addr} (st : Step O H O1 [] H1) (p : PostX K mg Z O1 σ H1 cls d H2 c env2) : PostX K mg Z O σ H cls d H2 c env2 := by
  obtain ⟨O2, I2, st2⟩ := p.ex
  exact ⟨⟨O2, I2, (st.trans st2).weak fun _ z => nomatch z⟩, p.er⟩
theorem tu_if {W : WX} {f g h : Ev → Res} {Q : VK} (hq : TU K mg W (dIf f g h) σ H Q) : TUT K mg W f σ H fun c H1 => if c = true then TU K mg W g σ H1 Q else TU K mg W h σ H1 Q := by
  obtain ⟨Z, O, env, I, hq⟩ := hq
  refine ⟨Z, O, env, I, ?_⟩
  revert hq
  have br : ∀ {k : Ev → Res} {e : Ev} {q : Ql} {H1 : Hp}, PostL K Z O env σ H [] H1 [] e q → (match (k e).q q with
      | .ok x env' q => ∀ v H', Post K Z O env σ H v H' x env' q → Q v H'
      | .exn c env' => ∀ cls d H', PostX K mg Z O σ H cls d H' c env' → W cls d σ H'
      | .stuck => False) → TU K mg W k σ H1 Q := fun {k e q H1} p hk => by
    obtain ⟨O1, I1, st1, go⟩ := p.after
    refine ⟨Z, O1, e, I1, ?_⟩
    cases ek : k e with
    | stuck => rw [ek] at hk; exact hk
    | exn c e2 => rw [ek] at hk; exact fun cls d H' px => hk cls d H' (PostX.then st1 px)
    | ok x e2 q2 => rw [ek] at hk; exact fun v H' p2 => hk v H' (go p2)
  refine dIf_cases (P := fun r => EndE K mg W Z O env σ H Q r → EndT K mg W Z O env σ H (fun c H1 => if c = true then TU K mg W g σ H1 Q else TU K mg W h σ H1 Q) (f env)) (fun _ hq => hq.elim) (fun c e ef hq => ?_) (fun e q ef hq => ?_) (fun e q ef hq => ?_)
  · rw [ef]; exact hq
  · rw [ef]; exact ⟨true, rfl, fun H' p => iteT (br p hq)⟩
  · rw [ef]; exact ⟨false, rfl, fun H' p => iteF (br p hq)⟩
theorem tut_if {W : WX} {f g h : Ev → Res} {Q : Bool → Hp → Prop} (hq : TUT K mg W (dIf f g h) σ H Q) : TUT K mg W f σ H fun c H1 => if c = true then TUT K mg W g σ H1 Q else TUT K mg W h σ H1 Q := by
  obtain ⟨Z, O, env, I, hq⟩ := hq
  refine ⟨Z, O, env, I, ?_⟩
  revert hq
  have br : ∀ {k : Ev → Res} {e : Ev} {q : Ql} {H1 : Hp}, PostL K Z O env σ H [] H1 [] e q → (match (k e).q q with
      | .ok x env' q => ∃ b, x = .own (.fz (.bool b)) ∧ ∀ H', PostL K Z O env σ H [] H' [] env' q → Q b H'
      | .exn c env' => ∀ cls d H', PostX K mg Z O σ H cls d H' c env' → W cls d σ H'
      | .stuck => False) → TUT K mg W k σ H1 Q := fun {k e q H1} p hk => by
    obtain ⟨O1, I1, st1, go⟩ := p.after
    refine ⟨Z, O1, e, I1, ?_⟩
    cases ek : k e with
    | stuck => rw [ek] at hk; exact hk
    | exn c e2 => rw [ek] at hk; exact fun cls d H' px => hk cls d H' (PostX.then st1 px)
    | ok x e2 q2 =>
      rw [ek] at hk
      obtain ⟨b, eb, hk⟩ := hk
      exact ⟨b, eb, fun H' p2 => hk H' (go p2)⟩
  refine dIf_cases (P := fun r => EndT K mg W Z O env σ H Q r → EndT K mg W Z O env σ H (fun c H1 => if c = true then TUT K mg W g σ H1 Q else TUT K mg W h σ H1 Q) (f env)) (fun _ hq => hq.elim) (fun c e ef hq => ?_) (fun e q ef hq => ?_) (fun e q ef hq => ?_)
  · rw [ef]; exact hq
  · rw [ef]; exact ⟨true, rfl, fun H' p => iteT (br p hq)⟩
  · rw [ef]; exact ⟨false, rfl, fun H' p => iteF (br p hq)⟩
theorem truth_of {v : V} {vs : List V} {x : Val} {xs : List Val} {b : Bool} (r : RVs K H G Gv (v :: vs) (x :: xs) F) (e : truthV x = some b) : TruV K v H b := by
  have lst : ∀ {m : List M} {G} {F}, RM K H G v (.lst m) F → TruV K v H (!m.isEmpty) := fun r => by
    cases r with
    | lst h rs => exact .inl ⟨_, .inl (.inl h), by cases rs <;> rfl⟩
  have tup : ∀ {m : List M} {G} {F}, RM K H G v (.tup m) F → TruV K v H (!m.isEmpty) := fun r => by
    cases r with
    | tup h rs => exact .inr (.inl ⟨_, h.t, by cases rs <;> rfl⟩)
  have dk : ∀ {ks : List Key} {m : List M} {G} {F}, RM K H G v (.dK ks m) F → TruV K v H (!ks.isEmpty) := fun r => by
    cases r with
    | dK h rs => exact .inr (.inr ⟨_, h, by rw [List.isEmpty_map]⟩)
  unfold truthV at e
  split at e
  · cases e; cases r.fz1.nonI; rfl
  · cases e; cases r.fz1.blI; rfl
  · cases e; cases r.fz1.intI; rfl
  · split at e
    · rename_i hz
      cases e; cases r.fz1.strI; exact ⟨le_sz hz, rfl⟩
    · cases e
  · cases e
    cases r.fz1 with
    | lst h g rs => exact .inl ⟨_, .inl h, by cases rs <;> rfl⟩
  · cases e
    cases r.fz1 with
    | tup h rs => exact .inr (.inl ⟨_, h.t, by cases rs <;> rfl⟩)
  · cases e; obtain ⟨F', r0, _⟩ := r.own1; exact lst r0
  · cases e; obtain ⟨F', r0, _⟩ := r.own1; exact tup r0
  · cases e; obtain ⟨F', r0, _⟩ := r.vw1; exact lst r0
  · cases e; obtain ⟨F', r0, _⟩ := r.vw1; exact tup r0
  · cases e; obtain ⟨F', r0, _⟩ := r.own1; exact dk r0
  · cases e; obtain ⟨F', r0, _⟩ := r.vw1; exact dk r0
  · cases e
/-- a test by the value's truth -/
def kTru : List Val → Option Val
  | [x] => (truthV x).map fun b => .own (.fz (.bool b))
  | _ => none
abbrev dTru (f : Ev → Res) : Ev → Res := dF id kTru [f]
theorem tut_F {W : WX} {qf : Ql → Ql} {k : List Val → Option Val} {fs : List (Ev → Res)} {R : List V → Hp → Prop} {Q : Bool → Hp → Prop} (h : TUT K mg W (dF qf k fs) σ H Q)
    (c : ∀ Z O env env' q xs b, SI K Z O env σ H → k xs = some (.own (.fz (.bool b))) → xs.length = fs.length → ∀ vs H', PostL K Z O env σ H vs H' xs env' q → (∀ H'', PostL K Z O env σ H [] H'' [] env' (qf q) → Q b H'') → R vs H') : TUL K mg W (evs fs) σ H R := by
  obtain ⟨Z, O, env, I, h⟩ := h
  refine ⟨Z, O, env, I, ?_⟩
  unfold dF at h
  cases e : evs fs env with
  | stuck => rw [e] at h; exact h
  | exn c env' => rw [e] at h; exact h
  | ok xs env' q =>
    rw [e] at h
    intro vs H' p
    cases e2 : k xs with
    | none => simp only [e2] at h
    | some y =>
      simp only [e2] at h
      obtain ⟨b, eb, h⟩ := h
      subst eb
      exact c Z O env env' q xs b I e2 (evs_len e) vs H' p h
theorem tut_G {W : WX} {k : List Val → Option (Val × Bool)} {fs : List (Ev → Res)} {R : List V → Hp → Prop} {Q : Bool → Hp → Prop} (h : TUT K mg W (dG k fs) σ H Q)
    (c : ∀ Z O env env' q xs b n, SI K Z O env σ H → k xs = some (.own (.fz (.bool b)), n) → xs.length = fs.length → ∀ vs H', PostL K Z O env σ H vs H' xs env' q → (∀ H'', PostL K Z O env σ H [] H'' [] env' (q.f n) → Q b H'') → R vs H') : TUL K mg W (evs fs) σ H R := by
  obtain ⟨Z, O, env, I, h⟩ := h
  refine ⟨Z, O, env, I, ?_⟩
  unfold dG at h
  cases e : evs fs env with
  | stuck => rw [e] at h; exact h
  | exn c env' => rw [e] at h; exact h
  | ok xs env' q =>
    rw [e] at h
    intro vs H' p
    cases e2 : k xs with
    | none => simp only [e2] at h
    | some yb =>
      obtain ⟨y, n⟩ := yb
      simp only [e2] at h
      obtain ⟨b, eb, h⟩ := h
      subst eb
      exact c Z O env env' q xs b n I e2 (evs_len e) vs H' p h
end
section
variable {X : Cx} {f g h : Ev → Res} {a b c e : Expr} {rest : List Expr} {pos : Pos}
theorem st_tru (he : SE X f e) (hw : ∀ whole, isTrue e X.env whole = (do let v ← whole; standAt e.pos; holding [v] (truthy v)) := by intro _; rfl) : ST X (dTru f) e := fun W tk =>
  PT.imp (pt_truth (he W tk) hw) fun σ H Q hq => tu_one (tut_F hq fun Z O env env' q xs b I hk hl vs H' pl kk v ev => by
    subst ev
    unfold kTru at hk
    split at hk
    · obtain ⟨b', eb, e2⟩ := Option.map_eq_some_iff.mp hk
      cases e2
      obtain ⟨O', F, pa⟩ := pl.ex
      exact ⟨b, truth_of pa.2.1 eb, kk _ pl.drop⟩
    · cases hk)
theorem st_cmp {op : CmpOp} {k : List Val → Option (Val × Bool)} (ho : OpV X (compareOp op) k) (ha : SE X f a) (hb : SE X g b) (hm : behindInMarks op b = false) : ST X (dG k [f, g]) (.Compare a [op] [b] pos) := fun W tk => by
  obtain ⟨r, h1, h2⟩ := ho
  refine PT.imp (pt_cmpR h1 (ha W tk) (hb W tk) hm) fun σ H Q h => tu_two (tut_G h fun Z O env env' q xs b n I hk hl vs H' pl kk v w ev => ?_)
  subst ev
  match xs, hl, hk, pl with
  | [x1, x2], _, hk, pl =>
    refine h2 Z O env env' σ H H' v w x1 x2 _ n q _ pl hk fun v' H'' p => ?_
    obtain ⟨O', F, pa⟩ := p.ex
    exact ⟨b, pa.2.1.fz1.blI, kk _ p.drop⟩
theorem st_not (ha : ST X f a) : ST X (dIf f (dLit (.bool false)) (dLit (.bool true))) (.UnaryOp .Not a pos) := fun W tk =>
  PT.imp (pt_not (ha W tk)) fun σ H Q hq => by
    obtain ⟨Z, O, env, I, hq⟩ := tut_if hq
    refine ⟨Z, O, env, I, ?_⟩
    cases ef : f env with
    | stuck => rw [ef] at hq; exact hq
    | exn c e1 => rw [ef] at hq; exact hq
    | ok x e1 q =>
      rw [ef] at hq
      obtain ⟨b, eb, hq⟩ := hq
      refine ⟨b, eb, fun H' p => ?_⟩
      have z := hq H' p
      cases b with
      | true =>
        rw [if_pos rfl] at z
        obtain ⟨Z, O, env, I, b, eb, z⟩ := z
        cases eb
        exact z _ (PostL.nil I)
      | false =>
        rw [if_neg Bool.false_ne_true] at z
        obtain ⟨Z, O, env, I, b, eb, z⟩ := z
        cases eb
        exact z _ (PostL.nil I)
theorem stw_and1 (ha : ST X f a) : STW X f (.BoolOp .And [a] pos) := fun W tk => pw_and1 (ha W tk)
theorem stw_or1 (ha : ST X f a) : STW X f (.BoolOp .Or [a] pos) := fun W tk => pw_or1 (ha W tk)
theorem tut_mono {K : PySem.W.Frag} {mg : Str → Option Value} {W : WX} {f : Ev → Res} {σ : L2.St} {H : Hp} {Q Q' : Bool → Hp → Prop} (h : TUT K mg W f σ H Q) (qq : ∀ v H', Q v H' → Q' v H') : TUT K mg W f σ H Q' := by
  obtain ⟨Z, O, env, I, h⟩ := h
  refine ⟨Z, O, env, I, ?_⟩
  cases e : f env with
  | stuck => rw [e] at h; exact h
  | exn c e1 => rw [e] at h; exact h
  | ok x e1 q =>
    rw [e] at h
    obtain ⟨b, eb, h⟩ := h
    exact ⟨b, eb, fun H' p => qq b H' (h H' p)⟩
theorem tut_lit {K : PySem.W.Frag} {mg : Str → Option Value} {W : WX} {b : Bool} {σ : L2.St} {H : Hp} {Q : Bool → Hp → Prop} (h : TUT K mg W (dLit (.bool b)) σ H Q) : Q b H := by
  obtain ⟨Z, O, env, I, b, eb, z⟩ := h
  cases eb
  exact z _ (PostL.nil I)
theorem stw_and (ha : ST X f a) (hb : STW X g (.BoolOp .And (b :: rest) pos)) : STW X (dIf f g (dLit (.bool false))) (.BoolOp .And (a :: b :: rest) pos) := fun W tk =>
  PW.imp (pw_and (ha W tk) (hb W tk)) fun σ H Q hq => tut_mono (tut_if hq) fun c H1 z => by
    cases c with
    | true => rw [if_pos rfl] at z ⊢; exact z
    | false => rw [if_neg Bool.false_ne_true] at z ⊢; exact tut_lit z
theorem stw_or (ha : ST X f a) (hb : STW X g (.BoolOp .Or (b :: rest) pos)) : STW X (dIf f (dLit (.bool true)) g) (.BoolOp .Or (a :: b :: rest) pos) := fun W tk =>
  PW.imp (pw_or (ha W tk) (hb W tk)) fun σ H Q hq => tut_mono (tut_if hq) fun c H1 z => by
    cases c with
    | true => rw [if_pos rfl] at z ⊢; exact tut_lit z
    | false => rw [if_neg Bool.false_ne_true] at z ⊢; exact z
theorem se_ife {t : Ev → Res} (hc : ST X t c) (ha : SE X f a) (hb : SE X g b) : SE X (dIf t f g) (.IfExp c a b pos) := fun W tk =>
  PE.imp (pe_ifExp (hc W tk) (ha W tk) (hb W tk)) fun σ H Q hq => tu_if hq
/-! and, or, not as values -/
def dAndV (f g : Ev → Res) : Ev → Res := fun env => match f env with
  | .ok x e1 q1 => (match truthV x with
    | some true => (g e1).q q1
    | some false => .ok x e1 q1
    | none => .stuck)
  | .exn c e => .exn c e
  | .stuck => .stuck
def dOrV (f g : Ev → Res) : Ev → Res := fun env => match f env with
  | .ok x e1 q1 => (match truthV x with
    | some false => (g e1).q q1
    | some true => .ok x e1 q1
    | none => .stuck)
  | .exn c e => .exn c e
  | .stuck => .stuck
theorem se_one {op} (ha : SE X f a) : SE X f (.BoolOp op [a] pos) := fun W tk => pe_one (ha W tk)
theorem br_after {K : PySem.W.Frag} {mg : Str → Option Value} {W : WX} {Z : Addr → Prop} {O : List Addr} {env : Ev} {σ : L2.St} {H : Hp} {Q : VK} {k : Ev → Res} {e : Ev} {q : Ql} {H1 : Hp} (p : PostL K Z O env σ H [] H1 [] e q) (hk : match (k e).q q with
      | .ok x env' q => ∀ v H', Post K Z O env σ H v H' x env' q → Q v H'
      | .exn c env' => ∀ cls d H', PostX K mg Z O σ H cls d H' c env' → W cls d σ H'
      | .stuck => False) : TU K mg W k σ H1 Q := by
  obtain ⟨O1, I1, st1, go⟩ := p.after
  refine ⟨Z, O1, e, I1, ?_⟩
  cases ek : k e with
  | stuck => rw [ek] at hk; exact hk
  | exn c e2 => rw [ek] at hk; exact fun cls d H' px => hk cls d H' (PostX.then st1 px)
  | ok x e2 q2 => rw [ek] at hk; exact fun v H' p2 => hk v H' (go p2)
theorem se_andV (ha : SE X f a) (hb : SE X g (.BoolOp .And (b :: rest) pos)) : SE X (dAndV f g) (.BoolOp .And (a :: b :: rest) pos) := fun W tk =>
  PE.imp (pe_andT (ha W tk) (hb W tk)) fun σ H Q hq => by
    obtain ⟨Z, O, env, I, hq⟩ := hq
    refine ⟨Z, O, env, I, ?_⟩
    unfold dAndV at hq
    cases ef : f env with
    | stuck => rw [ef] at hq; exact hq
    | exn c e1 => rw [ef] at hq; exact hq
    | ok x e1 q =>
      simp only [ef] at hq
      intro v H' p
      obtain ⟨O', F, pa⟩ := id p.ex
      cases et : truthV x with
      | none => simp only [et] at hq
      | some k =>
        refine ⟨k, truth_of pa.2.1 et, ?_⟩
        cases k with
        | true => simp only [et] at hq; rw [if_pos rfl]; exact br_after p.drop hq
        | false => simp only [et] at hq; rw [if_neg Bool.false_ne_true]; exact hq v H' p
theorem se_orV (ha : SE X f a) (hb : SE X g (.BoolOp .Or (b :: rest) pos)) : SE X (dOrV f g) (.BoolOp .Or (a :: b :: rest) pos) := fun W tk =>
  PE.imp (pe_orT (ha W tk) (hb W tk)) fun σ H Q hq => by
    obtain ⟨Z, O, env, I, hq⟩ := hq
    refine ⟨Z, O, env, I, ?_⟩
    unfold dOrV at hq
    cases ef : f env with
    | stuck => rw [ef] at hq; exact hq
    | exn c e1 => rw [ef] at hq; exact hq
    | ok x e1 q =>
      simp only [ef] at hq
      intro v H' p
      obtain ⟨O', F, pa⟩ := id p.ex
      cases et : truthV x with
      | none => simp only [et] at hq
      | some k =>
        refine ⟨k, truth_of pa.2.1 et, ?_⟩
        cases k with
        | true => simp only [et] at hq; rw [if_pos rfl]; exact hq v H' p
        | false => simp only [et] at hq; rw [if_neg Bool.false_ne_true]; exact br_after p.drop hq
def kNot : List Val → Option Val
  | [x] => (truthV x).map fun b => .own (.fz (.bool !b))
  | _ => none
theorem se_notV (ha : SE X f a) : SE X (dF id kNot [f]) (.UnaryOp .Not a pos) := fun W tk =>
  PE.imp (pe_notT (ha W tk)) fun σ H Q hq => tu_one (tul_F hq fun Z O env env' q xs y I hk hl vs H' pl kk v ev => by
    subst ev
    unfold kNot at hk
    split at hk
    · obtain ⟨b', eb, e2⟩ := Option.map_eq_some_iff.mp hk
      cases e2
      obtain ⟨O', F, pa⟩ := pl.ex
      exact ⟨b', truth_of pa.2.1 eb, kk _ _ (pl.plain fun G => .bl _)⟩
    · cases hk)
/-! a < b < c, ints -/
def int2 : List Val → Option (Int × Int)
  | [.own (.fz (.int i)), .own (.fz (.int j))] => some (i, j)
  | _ => none
theorem int2_some {xs : List Val} {i j : Int} (h : int2 xs = some (i, j)) : xs = [.own (.fz (.int i)), .own (.fz (.int j))] := by
  unfold int2 at h
  split at h
  · cases h; rfl
  · cases h
def dChain (p1 p2 : Int → Int → Bool) (f g h : Ev → Res) : Ev → Res := fun env => match evs [f, g] env with
  | .ok xs e1 q1 => (match int2 xs with
    | some (i, j) => (match p1 i j with
      | true => (match h e1 with
        | .ok y e2 q2 => (match isInt y with
          | some k => .ok (.own (.fz (.bool (p2 j k)))) e2 (q1.j q2)
          | none => .stuck)
        | .exn c e => .exn c e
        | .stuck => .stuck)
      | false => .ok (.own (.fz (.bool false))) e1 q1)
    | none => .stuck)
  | .exn c e => .exn c e
  | .stuck => .stuck
theorem tu_chain {K : PySem.W.Frag} {mg : Str → Option Value} {W : WX} {p1 p2 : Int → Int → Bool} {σ : L2.St} {H : Hp} {Q : VK} (hq : TU K mg W (dChain p1 p2 f g h) σ H Q) :
    tChain (rI0 fun i j => .bl (p1 i j)) (rI0 fun i j => .bl (p2 i j)) (TU K mg W f) (TU K mg W g) (TU K mg W h) σ H Q := by
  obtain ⟨Z, O, env, I, hq⟩ := hq
  refine tu_two ⟨Z, O, env, I, ?_⟩
  unfold dChain at hq
  cases e : evs [f, g] env with
  | stuck => rw [e] at hq; exact hq
  | exn c env' => rw [e] at hq; exact hq
  | ok xs e1 q1 =>
    simp only [e] at hq
    intro vs H' p v w ev
    subst ev
    cases e2 : int2 xs with
    | none => simp only [e2] at hq
    | some ij =>
      obtain ⟨i, j⟩ := ij
      simp only [e2] at hq
      have ex := int2_some e2
      subst ex
      obtain ⟨O', F, pa⟩ := id p.ex
      obtain ⟨F', rt, _⟩ := pa.2.1.tail
      refine ⟨i, j, pa.2.1.fz1.intI, rt.fz1.intI, p1 i j, rfl, ?_⟩
      cases e3 : p1 i j with
      | false =>
        simp only [e3] at hq
        rw [if_neg Bool.false_ne_true]
        exact hq _ _ (p.plain fun G => .bl _)
      | true =>
        simp only [e3] at hq
        rw [if_pos rfl]
        obtain ⟨O1, I1, st1, go⟩ := p.drop.after
        refine ⟨Z, O1, e1, I1, ?_⟩
        cases e4 : h e1 with
        | stuck => simp only [e4] at hq
        | exn c e5 => simp only [e4] at hq; exact fun cls d H' px => hq cls d H' (PostX.then st1 px)
        | ok y e5 q2 =>
          simp only [e4] at hq
          intro u H2 p2
          cases e6 : isInt y with
          | none => simp only [e6] at hq
          | some k =>
            simp only [e6] at hq
            have ey := isInt_some e6
            subst ey
            obtain ⟨O2, F2, pa2⟩ := id p2.ex
            exact ⟨j, k, rt.fz1.intI, pa2.2.1.fz1.intI, hq _ _ ((go p2).plain fun G => .bl _)⟩
theorem se_chain {op op' : CmpOp} {p1 p2 : Int → Int → Bool} (h1 : OpR X (compareOp op) (rI0 fun i j => .bl (p1 i j))) (h2 : OpR X (compareOp op') (rI0 fun i j => .bl (p2 i j))) (ha : SE X f a) (hb : SE X g b) (hc : SE X h c)
    (hm : lastMarks [op, op'] [b, c] = false := by with_unfolding_all rfl) : SE X (dChain p1 p2 f g h) (.Compare a [op, op'] [b, c] pos) := fun W tk => PE.imp (pe_chain h1 h2 (ha W tk) (hb W tk) (hc W tk) hm) fun σ H Q hq => tu_chain hq
theorem st_chain {op op' : CmpOp} {p1 p2 : Int → Int → Bool} (h1 : OpR X (compareOp op) (rI0 fun i j => .bl (p1 i j))) (h2 : OpR X (compareOp op') (rI0 fun i j => .bl (p2 i j))) (ha : SE X f a) (hb : SE X g b) (hc : SE X h c)
    (hm : lastMarks [op, op'] [b, c] = false := by with_unfolding_all rfl) : ST X (dChain p1 p2 f g h) (.Compare a [op, op'] [b, c] pos) := fun W tk => PT.imp (pt_chain h1 h2 (ha W tk) (hb W tk) (hc W tk) hm) fun σ H Q hq => by
  refine tu_chain (Q := fun x H' => ∃ k, x = .bl k ∧ Q k H') ?_
  obtain ⟨Z, O, env, I, hq⟩ := hq
  refine ⟨Z, O, env, I, ?_⟩
  cases e : dChain p1 p2 f g h env with
  | stuck => rw [e] at hq; exact hq
  | exn c e1 => rw [e] at hq; exact hq
  | ok x e1 q =>
    rw [e] at hq
    obtain ⟨b, eb, hq⟩ := hq
    intro v H' p
    subst eb
    obtain ⟨O', F, pa⟩ := id p.ex
    exact ⟨b, pa.2.1.fz1.blI, hq _ p.drop⟩
end
end Q

set_option Elab.async false
set_option linter.all false
set_option maxRecDepth 100000
set_option maxHeartbeats 4000000
/-! Calls of built-ins. -/
namespace Q
open PySem PySem.Spec PyProof.Rows L2

def CallV (X : Cx) (f : Value) (k : List Val → Option (Val × Bool)) : Prop :=
  ∃ r, CallR X f r ∧ ∀ Z O env env' σ H H' vs xs z b q Q, PostL X.K Z O env σ H vs H' xs env' q → k xs = some (z, b) → (∀ v' H'', Post X.K Z O env σ H v' H'' z env' (q.f b) → Q v' H'') → r vs H' Q
theorem CallV.or {X : Cx} {f : Value} {k1 k2 : List Val → Option (Val × Bool)} (h1 : CallV X f k1) (h2 : CallV X f k2) : CallV X f (fun xs => (k1 xs).orElse fun _ => k2 xs) := by
  obtain ⟨r1, a1, b1⟩ := h1
  obtain ⟨r2, a2, b2⟩ := h2
  refine ⟨_, a1.or a2, fun Z O env env' σ H H' vs xs z b q Q pl he kk => ?_⟩
  have he : (k1 xs).orElse (fun _ => k2 xs) = some (z, b) := he
  cases e : k1 xs with
  | some d2 =>
    rw [e] at he
    obtain rfl : d2 = (z, b) := Option.some.inj he
    exact .inl (b1 Z O env env' σ H H' vs xs z b q Q pl e kk)
  | none =>
    rw [e] at he
    exact .inr (b2 Z O env env' σ H H' vs xs z b q Q pl he kk)
/-- upon data, a plain datum back -/
theorem callv_of {X : Cx} {f : Value} {r : List V → Hp → VK → Prop} {op : List PyData → Option PyData} (h : CallR X f r) (k : ∀ vs H Q ds d, RFs X.K H Top vs ds → op ds = some d → (∀ v', (∀ G, RF X.K H G v' d) → Q v' H) → r vs H Q) : CallV X f (kPl op) := by
  refine ⟨r, h, fun Z O env env' σ H H' vs xs z b q Q pl he kk => ?_⟩
  obtain ⟨d, e2, e5⟩ := Option.map_eq_some_iff.mp he
  cases e5
  obtain ⟨ds, e3, e4⟩ := Option.bind_eq_some_iff.mp e2
  obtain ⟨O', F, I', rr, _⟩ := pl.ex
  exact k vs H' Q ds d (rr.data e3) e4 fun v' rv => kk v' H' (pl.plain rv)
section
variable {X : Cx} {x : Str} {p pos : Pos} {e : Expr} {es : List Expr} {fs : List (Ev → Res)} {id T : String} {k : List Val → Option (Val × Bool)}
theorem se_callB (hc : CallV X (.builtin id) k) (hg : Gl X x) (hm : X.mg x = none) (hv : bootBuiltins x = some (.builtin id)) (ha : SA X (evs fs) (e :: es)) (hn : x ≠ "__name__" := by decide) (hdb : (x == ("__debug__" : Str)) = false := by decide)
    (he : starEach (e :: es) X.env = (false, eval e X.env) :: starEach es X.env := by rfl) (hpl : (backTo pos (starEach es X.env)).any (·.1) = false := by rfl) : SE X (dG k fs) (.Call (.Name x p) (e :: es) [] pos) := fun W tk => by
  obtain ⟨r, h1, h2⟩ := hc
  exact PE.imp (pe_callB h1 hg hm hv (ha W tk) hn hdb he hpl) fun σ H Q h => tul_G h fun Z O env env' q xs y b I hk hl vs H' pl kk => h2 Z O env env' σ H H' vs xs y b q Q pl hk kk
theorem se_callTy (hc : CallV X (.type T) k) (hg : Gl X x) (hm : X.mg x = none) (hv : bootBuiltins x = some (.type T)) (ha : SA X (evs fs) (e :: es)) (hn : x ≠ "__name__" := by decide) (hdb : (x == ("__debug__" : Str)) = false := by decide)
    (he : starEach (e :: es) X.env = (false, eval e X.env) :: starEach es X.env := by rfl) (hpl : (backTo pos (starEach es X.env)).any (·.1) = false := by rfl) : SE X (dG k fs) (.Call (.Name x p) (e :: es) [] pos) := fun W tk => by
  obtain ⟨r, h1, h2⟩ := hc
  exact PE.imp (pe_callTy h1 hg hm hv (ha W tk) hn hdb he hpl) fun σ H Q h => tul_G h fun Z O env env' q xs y b I hk hl vs H' pl kk => h2 Z O env env' σ H H' vs xs y b q Q pl hk kk
end
section
variable {X : Cx}
/-! ### len -/
def lenV : Val → Option Nat
  | .own (.fz (.list ds)) => some ds.length
  | .own (.fz (.tuple ds)) => some ds.length
  | .own (.fz (.str z)) => if z.length ≤ SZ then some z.length else none
  | .own (.lst ms) => some ms.length
  | .own (.tup ms) => some ms.length
  | .vw (.lst ms) => some ms.length
  | .vw (.tup ms) => some ms.length
  | _ => none
def kLen : List Val → Option (Val × Bool)
  | [x] => (lenV x).map fun (n : Nat) => (.own (.fz (.int (Int.ofNat n))), false)
  | _ => none
theorem callv_len : CallV X (.builtin "len") kLen := by
  refine ⟨_, call_len_seq.or call_len_str, fun Z O env env' σ H H' vs xs z b q Q pl he kk => ?_⟩
  unfold kLen at he
  split at he
  · rename_i x
    obtain ⟨n, hn, e2⟩ := Option.map_eq_some_iff.mp he
    cases e2
    have hl := pl.len
    obtain ⟨O', F, pa⟩ := id pl.ex
    have rr := pa.2.1
    match vs, hl, pl, rr with
    | [v], _, pl, rr =>
      have fin : ∀ m : Nat, m = n → Q (.int (Int.ofNat m)) H' := fun m e => by
        rw [e]; exact kk _ _ (pl.plain fun G => .int _)
      unfold lenV at hn
      split at hn
      · cases hn
        cases rr.fz1 with
        | lst h g rs => exact .inl ⟨_, _, rfl, .inl (.inl h), fin _ rs.length⟩
      · cases hn
        cases rr.fz1 with
        | tup h rs => exact .inl ⟨_, _, rfl, .inr h.t, fin _ rs.length⟩
      · split at hn
        · rename_i hz
          cases hn
          cases rr.fz1.strI
          exact .inr ⟨_, rfl, le_sz hz, fin _ rfl⟩
        · cases hn
      · cases hn
        obtain ⟨F2, r0, _⟩ := rr.own1
        cases r0 with
        | lst h rs => exact .inl ⟨_, _, rfl, .inl (.inl (.inl h)), fin _ rs.length⟩
      · cases hn
        obtain ⟨F2, r0, _⟩ := rr.own1
        cases r0 with
        | tup h rs => exact .inl ⟨_, _, rfl, .inr h.t, fin _ rs.length⟩
      · cases hn
        obtain ⟨F2, r0, _⟩ := rr.vw1
        cases r0 with
        | lst h rs => exact .inl ⟨_, _, rfl, .inl (.inl (.inl h)), fin _ rs.length⟩
      · cases hn
        obtain ⟨F2, r0, _⟩ := rr.vw1
        cases r0 with
        | tup h rs => exact .inl ⟨_, _, rfl, .inr h.t, fin _ rs.length⟩
      · cases hn
  · cases he
/-! ### tuple(x), list(x) -/
def seqv (x : Val) : Option (List PyData) := (lv x).orElse fun _ => tv x
def kTupOf : List Val → Option (Val × Bool)
  | [x] => (seqv x).map fun ds => (.own (.fz (.tuple ds)), true)
  | _ => none
def kLstOf : List Val → Option (Val × Bool)
  | [x] => (seqv x).map fun ds => (.own (.lst (ds.map .fz)), true)
  | _ => none
theorem RVs.seqv {K : PySem.W.Frag} {H : Hp} {G Gv : Addr → Prop} {F : List Addr} {v : V} {vs : List V} {x : Val} {xs : List Val} {ds : List PyData} (r : RVs K H G Gv (v :: vs) (x :: xs) F) (e : seqv x = some ds) : ∃ a ws, v = .ref a ∧ (SqL K H a ws ∨ SqN K H a ws) ∧ RFs K H G ws ds := by
  unfold Q.seqv at e
  cases e1 : Q.lv x with
  | some d =>
    rw [e1] at e
    cases e
    obtain ⟨a, ws, h1, h2, h3⟩ := r.lv e1
    exact ⟨a, ws, h1, .inl (.inl h2), h3⟩
  | none =>
    rw [e1] at e
    obtain ⟨a, ws, h1, h2, h3⟩ := r.tv e
    exact ⟨a, ws, h1, .inr h2, h3⟩
theorem callv_tup : CallV X (.type "tuple") kTupOf := by
  refine ⟨_, call_tupX, fun Z O env env' σ H H' vs xs z b q Q pl he kk => ?_⟩
  unfold kTupOf at he
  split at he
  · rename_i x
    obtain ⟨ds, hn, e2⟩ := Option.map_eq_some_iff.mp he
    cases e2
    have hl := pl.len
    obtain ⟨O', F, pa⟩ := id pl.ex
    match vs, hl, pl, pa with
    | [v], _, pl, pa =>
      obtain ⟨a, ws, rfl, h2, h3⟩ := pa.2.1.seqv hn
      rcases h2 with h2 | h2
      · exact ⟨a, ws, rfl, .inl ⟨h2, fun p o hp ho => kk _ _ (pa.newT h3 hp ho)⟩⟩
      · exact ⟨a, ws, rfl, .inr ⟨h2.t, kk _ _ (Post.wn (pa.keepF (.tup h2 h3)))⟩⟩
  · cases he
theorem callv_lst : CallV X (.type "list") kLstOf := by
  refine ⟨_, call_list_of, fun Z O env env' σ H H' vs xs z b q Q pl he kk => ?_⟩
  unfold kLstOf at he
  split at he
  · rename_i x
    obtain ⟨ds, hn, e2⟩ := Option.map_eq_some_iff.mp he
    cases e2
    have hl := pl.len
    obtain ⟨O', F, pa⟩ := id pl.ex
    match vs, hl, pl, pa with
    | [v], _, pl, pa =>
      obtain ⟨a, ws, rfl, h2, h3⟩ := pa.2.1.seqv hn
      exact ⟨a, ws, rfl, (h2.imp id SqN.t), fun p hp => kk _ _ (pa.newL h3.tms (List.nil_sublist _) hp)⟩
  · cases he
/-! ### intsD -/
theorem RFs.v1 {K : PySem.W.Frag} {H : Hp} {G : Addr → Prop} {vs : List V} {d : PyData} (r : RFs K H G vs [d]) : ∃ v, vs = [v] ∧ RF K H G v d := by
  cases r with
  | cons h t => cases t; exact ⟨_, rfl, h⟩
theorem RFs.v2 {K : PySem.W.Frag} {H : Hp} {G : Addr → Prop} {vs : List V} {d e : PyData} (r : RFs K H G vs [d, e]) : ∃ v w, vs = [v, w] ∧ RF K H G v d ∧ RF K H G w e := by
  cases r with
  | cons h t =>
    obtain ⟨w, rfl, h2⟩ := t.v1
    exact ⟨_, w, rfl, h, h2⟩
def oAbs : List PyData → Option PyData
  | [.int i] => some (.int (if i < 0 then -i else i))
  | _ => none
theorem callv_abs : CallV X (.builtin "abs") (kPl oAbs) := callv_of call_abs fun vs H Q ds d hd he k => by
  unfold oAbs at he
  split at he
  · cases he
    obtain ⟨v, rfl, r⟩ := hd.v1
    exact ⟨_, by rw [r.intI], k _ fun G => .int _⟩
  · cases he
def oInt : List PyData → Option PyData
  | [.int i] => some (.int i)
  | [.bool b] => some (.int (if b then 1 else 0))
  | _ => none
theorem callv_int : CallV X (.type "int") (kPl oInt) := callv_of call_int1 fun vs H Q ds d hd he k => by
  unfold oInt at he
  split at he
  · cases he
    obtain ⟨v, rfl, r⟩ := hd.v1
    exact .inl ⟨_, by rw [r.intI], k _ fun G => .int _⟩
  · cases he
    obtain ⟨v, rfl, r⟩ := hd.v1
    exact .inr ⟨_, by rw [r.blI], k _ fun G => .int _⟩
  · cases he
/-- the intsD of a row -/
def intsD : List PyData → Option (List Int)
  | [] => some []
  | .int i :: r => (intsD r).map fun l => i :: l
  | _ :: _ => none
def boolsD : List PyData → Option (List Bool)
  | [] => some []
  | .bool i :: r => (boolsD r).map fun l => i :: l
  | _ :: _ => none
theorem RFs.intsD {K : PySem.W.Frag} {H : Hp} {G : Addr → Prop} : ∀ {vs : List V} {ds : List PyData} {ns : List Int}, RFs K H G vs ds → intsD ds = some ns → vs = ns.map V.int
  | _, _, _, .nil, e => by unfold Q.intsD at e; cases e; rfl
  | _, _, _, .cons h t, e => by
    unfold Q.intsD at e
    split at e
    · rename_i heq; cases heq
    · rename_i heq
      cases heq
      obtain ⟨l, e1, rfl⟩ := Option.map_eq_some_iff.mp e
      rw [List.map_cons, h.intI, RFs.intsD t e1]
    · cases e
theorem RFs.boolsD {K : PySem.W.Frag} {H : Hp} {G : Addr → Prop} : ∀ {vs : List V} {ds : List PyData} {ns : List Bool}, RFs K H G vs ds → boolsD ds = some ns → vs = ns.map V.bl
  | _, _, _, .nil, e => by unfold Q.boolsD at e; cases e; rfl
  | _, _, _, .cons h t, e => by
    unfold Q.boolsD at e
    split at e
    · rename_i heq; cases heq
    · rename_i heq
      cases heq
      obtain ⟨l, e1, rfl⟩ := Option.map_eq_some_iff.mp e
      rw [List.map_cons, h.blI, RFs.boolsD t e1]
    · cases e
def oSum : List PyData → Option PyData
  | [.list ds] => (intsD ds).map fun ns => .int ns.sum
  | _ => none
def oAll : List PyData → Option PyData
  | [.list ds] => (boolsD ds).map fun bs => .bool (bs.all fun b => b)
  | _ => none
def oAny : List PyData → Option PyData
  | [.list ds] => (boolsD ds).map fun bs => .bool (bs.any fun b => b)
  | _ => none
theorem callv_sum (hc : X.calm = true) : CallV X (.builtin "sum") (kPl oSum) := callv_of (cr_sum hc) fun vs H Q ds d hd he k => by
  unfold oSum at he
  split at he
  · obtain ⟨ns, e, rfl⟩ := Option.map_eq_some_iff.mp he
    obtain ⟨v, rfl, r⟩ := hd.v1
    cases r with
    | lst h g rs => exact ⟨_, ns, rfl, .inl (by rw [← rs.intsD e]; exact h), k _ fun G => .int _⟩
  · cases he
theorem callv_all (hc : X.calm = true) : CallV X (.builtin "all") (kPl oAll) := callv_of (cr_all hc) fun vs H Q ds d hd he k => by
  unfold oAll at he
  split at he
  · obtain ⟨ns, e, rfl⟩ := Option.map_eq_some_iff.mp he
    obtain ⟨v, rfl, r⟩ := hd.v1
    cases r with
    | lst h g rs => exact ⟨_, ns, rfl, .inl (by rw [← rs.boolsD e]; exact h), k _ fun G => .bl _⟩
  · cases he
theorem callv_any (hc : X.calm = true) : CallV X (.builtin "any") (kPl oAny) := callv_of (cr_any hc) fun vs H Q ds d hd he k => by
  unfold oAny at he
  split at he
  · obtain ⟨ns, e, rfl⟩ := Option.map_eq_some_iff.mp he
    obtain ⟨v, rfl, r⟩ := hd.v1
    cases r with
    | lst h g rs => exact ⟨_, ns, rfl, .inl (by rw [← rs.boolsD e]; exact h), k _ fun G => .bl _⟩
  · cases he
def maxI : List Int → Option Int
  | [] => none
  | x :: r => some (r.foldl max x)
def minI : List Int → Option Int
  | [] => none
  | x :: r => some (r.foldl min x)
theorem foldl_max : ∀ (r : List Int) (x : Int), (r.foldl max x = x ∨ r.foldl max x ∈ r) ∧ x ≤ r.foldl max x ∧ ∀ y ∈ r, y ≤ r.foldl max x
  | [], x => ⟨.inl rfl, Int.le_refl _, fun _ z => nomatch z⟩
  | y :: r, x => by
    obtain ⟨h1, h2, h3⟩ := foldl_max r (max x y)
    rw [List.foldl_cons]
    refine ⟨?_, by omega, fun z hz => ?_⟩
    · rcases h1 with h | h
      · rw [h]
        by_cases q : x ≤ y
        · exact .inr (by rw [Int.max_eq_right q]; exact List.mem_cons_self)
        · exact .inl (Int.max_eq_left (by omega))
      · exact .inr (List.mem_cons_of_mem _ h)
    · rcases List.mem_cons.mp hz with e | hz
      · subst e; omega
      · exact h3 z hz
theorem foldl_min : ∀ (r : List Int) (x : Int), (r.foldl min x = x ∨ r.foldl min x ∈ r) ∧ r.foldl min x ≤ x ∧ ∀ y ∈ r, r.foldl min x ≤ y
  | [], x => ⟨.inl rfl, Int.le_refl _, fun _ z => nomatch z⟩
  | y :: r, x => by
    obtain ⟨h1, h2, h3⟩ := foldl_min r (min x y)
    rw [List.foldl_cons]
    refine ⟨?_, by omega, fun z hz => ?_⟩
    · rcases h1 with h | h
      · rw [h]
        by_cases q : x ≤ y
        · exact .inl (Int.min_eq_left q)
        · exact .inr (by rw [Int.min_eq_right (by omega)]; exact List.mem_cons_self)
      · exact .inr (List.mem_cons_of_mem _ h)
    · rcases List.mem_cons.mp hz with e | hz
      · subst e; omega
      · exact h3 z hz
theorem maxI_some {ns : List Int} {m : Int} (h : maxI ns = some m) : m ∈ ns ∧ ∀ y ∈ ns, y ≤ m := by
  cases ns with
  | nil => cases h
  | cons x r =>
    cases h
    obtain ⟨h1, h2, h3⟩ := foldl_max r x
    refine ⟨?_, fun y hy => ?_⟩
    · rcases h1 with h | h
      · rw [h]; exact List.mem_cons_self
      · exact List.mem_cons_of_mem _ h
    · rcases List.mem_cons.mp hy with e | hy
      · subst e; exact h2
      · exact h3 y hy
theorem minI_some {ns : List Int} {m : Int} (h : minI ns = some m) : m ∈ ns ∧ ∀ y ∈ ns, m ≤ y := by
  cases ns with
  | nil => cases h
  | cons x r =>
    cases h
    obtain ⟨h1, h2, h3⟩ := foldl_min r x
    refine ⟨?_, fun y hy => ?_⟩
    · rcases h1 with h | h
      · rw [h]; exact List.mem_cons_self
      · exact List.mem_cons_of_mem _ h
    · rcases List.mem_cons.mp hy with e | hy
      · subst e; exact h2
      · exact h3 y hy
def oMax : List PyData → Option PyData
  | [.int i, .int j] => some (.int (if j > i then j else i))
  | [.list ds] => (intsD ds).bind fun ns => (maxI ns).map .int
  | _ => none
def oMin : List PyData → Option PyData
  | [.int i, .int j] => some (.int (if j < i then j else i))
  | [.list ds] => (intsD ds).bind fun ns => (minI ns).map .int
  | _ => none
theorem callv_max (hc : X.calm = true) : CallV X (.builtin "max") (kPl oMax) := callv_of ((call_max2 hc).or (cr_max hc)) fun vs H Q ds d hd he k => by
  unfold oMax at he
  split at he
  · cases he
    obtain ⟨v, w, rfl, r1, r2⟩ := hd.v2
    exact .inl ⟨_, _, by rw [r1.intI, r2.intI], k _ fun G => .int _⟩
  · obtain ⟨ns, e, he⟩ := Option.bind_eq_some_iff.mp he
    obtain ⟨m, em, rfl⟩ := Option.map_eq_some_iff.mp he
    obtain ⟨m1, m2⟩ := maxI_some em
    obtain ⟨v, rfl, r⟩ := hd.v1
    cases r with
    | lst h g rs =>
      refine .inr ⟨_, ns, rfl, .inl (by rw [← rs.intsD e]; exact h), List.length_pos_of_mem m1, fun m' h1 h2 => ?_⟩
      have : m' = m := Int.le_antisymm (m2 m' h1) (h2 m m1)
      rw [this]
      exact k _ fun G => .int _
  · cases he
theorem callv_min (hc : X.calm = true) : CallV X (.builtin "min") (kPl oMin) := callv_of ((call_min2 hc).or (cr_min hc)) fun vs H Q ds d hd he k => by
  unfold oMin at he
  split at he
  · cases he
    obtain ⟨v, w, rfl, r1, r2⟩ := hd.v2
    exact .inl ⟨_, _, by rw [r1.intI, r2.intI], k _ fun G => .int _⟩
  · obtain ⟨ns, e, he⟩ := Option.bind_eq_some_iff.mp he
    obtain ⟨m, em, rfl⟩ := Option.map_eq_some_iff.mp he
    obtain ⟨m1, m2⟩ := minI_some em
    obtain ⟨v, rfl, r⟩ := hd.v1
    cases r with
    | lst h g rs =>
      refine .inr ⟨_, ns, rfl, .inl (by rw [← rs.intsD e]; exact h), List.length_pos_of_mem m1, fun m' h1 h2 => ?_⟩
      have : m' = m := Int.le_antisymm (h2 m m1) (m2 m' h1)
      rw [this]
      exact k _ fun G => .int _
  · cases he
end
/-! ### isinstance -/
inductive Ty where
  | int | bool | str | tuple | list
def Ty.isI : Ty → Bool
  | .int => true | _ => false
def Ty.isB : Ty → Bool
  | .int => true | .bool => true | _ => false
def Ty.isS : Ty → Bool
  | .str => true | _ => false
def Ty.isT : Ty → Bool
  | .tuple => true | _ => false
def Ty.isL : Ty → Bool
  | .list => true | _ => false
def Ty.n : Ty → String
  | .int => "int" | .bool => "bool" | .str => "str" | .tuple => "tuple" | .list => "list"
def isiD : Ty → PyData → Option Bool
  | t, .none => some false
  | t, .bool _ => some t.isB
  | t, .int _ => some t.isI
  | t, .str _ => some t.isS
  | t, .tuple _ => some t.isT
  | t, .list _ => some t.isL
  | _, .dict _ => none
def isiV (t : Ty) : Val → Option Bool
  | .own (.fz d) => isiD t d
  | .own (.lst _) => some t.isL
  | .own (.tup _) => some t.isT
  | .vw (.lst _) => some t.isL
  | .vw (.tup _) => some t.isT
  | _ => none
def kIsi (t : Ty) : List Val → Option Val
  | [x] => (isiV t x).map fun b => .own (.fz (.bool b))
  | _ => none
section
variable {X : Cx}
theorem kit1 {K : PySem.W.Frag} {a b : String} {r : Bool} (h : kitB a b = some r) : PySem.W.kitOne K (.type a) (.type b) = some r := kit_ty h
theorem ty_lst {K : PySem.W.Frag} {H : Hp} {a : Addr} {xs : List V} (h : L2.Rd H a (.lst xs)) : TyX K H (.ref a) (.type "list") := by
  rcases h with h | ⟨o, h⟩
  · exact .base (.lst h)
  · exact .base (.frz h)
theorem ty_tup {K : PySem.W.Frag} {H : Hp} {a : Addr} {xs : List V} (h : SqT K H a xs) : TyX K H (.ref a) (.type "tuple") := by
  rcases h with (h | ⟨o, h⟩) | ⟨o, its, n, h, c, _⟩
  · exact .base (.tup h)
  · exact .fTuple h
  · exact .kTuple h c
theorem isi_of {K : PySem.W.Frag} {H : Hp} {G Gv : Addr → Prop} {F : List Addr} {v : V} {vs : List V} {x : Val} {xs : List Val} {t : Ty} {b : Bool} (r : RVs K H G Gv (v :: vs) (x :: xs) F) (e : isiV t x = some b) : ∃ u, TyX K H v u ∧ PySem.W.kitOne K u (.type t.n) = some b := by
  have lst : ∀ {a : Addr} {ws : List V}, L2.Rd H a (.lst ws) → ∃ u, TyX K H (.ref a) u ∧ PySem.W.kitOne K u (.type t.n) = some t.isL := fun h =>
    ⟨_, ty_lst h, by cases t <;> exact kit1 (by decide +kernel)⟩
  have tup : ∀ {a : Addr} {ws : List V}, SqT K H a ws → ∃ u, TyX K H (.ref a) u ∧ PySem.W.kitOne K u (.type t.n) = some t.isT := fun h =>
    ⟨_, ty_tup h, by cases t <;> exact kit1 (by decide +kernel)⟩
  unfold isiV at e
  split at e
  · have r0 := r.fz1
    cases r0 with
    | non => cases e; exact ⟨_, .base .non, by cases t <;> exact kit1 (by decide +kernel)⟩
    | bl k => cases e; exact ⟨_, .base (.bl k), by cases t <;> exact kit1 (by decide +kernel)⟩
    | int i => cases e; exact ⟨_, .base (.int i), by cases t <;> exact kit1 (by decide +kernel)⟩
    | str i => cases e; exact ⟨_, .base (.str i), by cases t <;> exact kit1 (by decide +kernel)⟩
    | lst h g rs => cases e; exact lst h
    | tup h rs => cases e; exact tup h.t
  · cases e
    obtain ⟨F2, r0, _⟩ := r.own1
    cases r0 with
    | lst h rs => exact lst (.inl h)
  · cases e
    obtain ⟨F2, r0, _⟩ := r.own1
    cases r0 with
    | tup h rs => exact tup h.t
  · cases e
    obtain ⟨F2, r0, _⟩ := r.vw1
    cases r0 with
    | lst h rs => exact lst (.inl h)
  · cases e
    obtain ⟨F2, r0, _⟩ := r.vw1
    cases r0 with
    | tup h rs => exact tup h.t
  · cases e
theorem se_isi (t : Ty) {f : Ev → Res} {e : Expr} {p p2 pos : Pos} (he : SE X f e) (hg : Gl X "isinstance") (hm : X.mg "isinstance" = none) (hg2 : Gl X (Str.ofString t.n)) (hm2 : X.mg (Str.ofString t.n) = none) (hv2 : bootBuiltins (Str.ofString t.n) = some (.type t.n))
    (hn : Str.ofString t.n ≠ "__name__") (hd : (Str.ofString t.n == ("__debug__" : Str)) = false)
    (hs : starEach [e, .Name (Str.ofString t.n) p2] X.env = (false, eval e X.env) :: starEach [.Name (Str.ofString t.n) p2] X.env := by rfl) (hpl : (backTo pos (starEach [.Name (Str.ofString t.n) p2] X.env)).any (·.1) = false := by rfl) : SE X (dF id (kIsi t) [f]) (.Call (.Name "isinstance" p) [e, .Name (Str.ofString t.n) p2] [] pos) := fun W tk =>
  PE.imp (pe_callB (hv := by decide +kernel) call_isi hg hm (pa_cons (hs := hs) (he W tk) (pa_cons (pe_bltn (v := .ty t.n) hg2 hm2 hv2 rfl hn hd) pa_nil)) (he := hs) (hpl := hpl)) fun σ H Q hq => tu_one (tul_F hq fun Z O env env' q xs y I hk hl vs H' pl kk v ev => by
    subst ev
    unfold kIsi at hk
    split at hk
    · obtain ⟨b, eb, e2⟩ := Option.map_eq_some_iff.mp hk
      cases e2
      obtain ⟨O', F, pa⟩ := pl.ex
      obtain ⟨u, h1, h2⟩ := isi_of pa.2.1 eb
      exact ⟨v, .ty t.n, u, .type t.n, b, rfl, .ty _, h1, h2, kk _ _ (pl.plain fun G => .bl _)⟩
    · cases hk)
end
end Q

set_option Elab.async false
set_option linter.all false
set_option maxRecDepth 100000
set_option maxHeartbeats 4000000
/-! Statements. -/
namespace Q
open PySem PySem.Spec PyProof.Rows L2

inductive Out where
  | nx (env : Ev)
  | ret (m : M) (env : Ev)
  | brk (env : Ev)
  | ct (env : Ev)
  | exn (c : Exn) (env : Ev)
  | stuck
/-- the names of io hold their values -/
def Held (io : Nat → Bool) (σ σ' : L2.St) : Prop := σ'.length = σ.length ∧ ∀ i, io i = true → σ'[i]? = σ[i]?
structure PostS (K : PySem.W.Frag) (Z : Addr → Prop) (O : List Addr) (io : Nat → Bool) (σ : L2.St) (H : Hp) (env' : Ev) (σ' : L2.St) (H' : Hp) : Prop where
  ex : ∃ O', SI K Z O' env' σ' H' ∧ Step O H O' [] H'
  io : Held io σ σ'
structure PostR (K : PySem.W.Frag) (Z : Addr → Prop) (O : List Addr) (io : Nat → Bool) (σ : L2.St) (H : Hp) (m : M) (env' : Ev) (v : V) (σ' : L2.St) (H' : Hp) : Prop where
  ex : ∃ O' F, SI K (Zp Z F) O' env' σ' H' ∧ RM K H' (fun a => ¬ Z a ∧ a ∉ O' ∧ a ∉ F) v m F ∧ F.Nodup ∧ (∀ a ∈ F, ¬ Z a) ∧ Step O H O' F H'
  io : Held io σ σ'
structure PostXS (K : PySem.W.Frag) (mg : Str → Option Value) (Z : Addr → Prop) (O : List Addr) (io : Nat → Bool) (σ : L2.St) (H : Hp) (c : Exn) (env' : Ev) (cls : Value) (d : Option Addr) (σ' : L2.St) (H' : Hp) : Prop where
  ex : ∃ O', SI K Z O' env' σ' H' ∧ Step O H O' [] H'
  io : Held io σ σ'
  er : ExnR K mg H' c cls d
def EndS (K : PySem.W.Frag) (mg : Str → Option Value) (W : WX) (io : Nat → Bool) (D : Ends) (Z : Addr → Prop) (O : List Addr) (σ : L2.St) (H : Hp) : Out → Prop
  | .nx e => ∀ σ' H', PostS K Z O io σ H e σ' H' → D.nx σ' H'
  | .ret m e => ∀ v σ' H', PostR K Z O io σ H m e v σ' H' → D.rt v H'
  | .brk e => ∀ σ' H', PostS K Z O io σ H e σ' H' → D.bk σ' H'
  | .ct e => ∀ σ' H', PostS K Z O io σ H e σ' H' → D.ct σ' H'
  | .exn c e => ∀ cls d σ' H', PostXS K mg Z O io σ H c e cls d σ' H' → W cls d σ' H'
  | .stuck => False
def TUS (K : PySem.W.Frag) (mg : Str → Option Value) (W : WX) (io : Nat → Bool) (den : Ev → Out) : TS := fun D σ H => ∃ Z O env, SI K Z O env σ H ∧ EndS K mg W io D Z O σ H (den env)
def SS (X : Cx) (io : Nat → Bool) (den : Ev → Out) (s : Stmt) : Prop := ∀ W, Takes X W → PS X s (TUS X.K X.mg W io den)
def SSs (X : Cx) (io : Nat → Bool) (den : Ev → Out) (s : List Stmt) : Prop := ∀ W, Takes X W → PSs X s (TUS X.K X.mg W io den)
section
variable {K : PySem.W.Frag} {mg : Str → Option Value} {H H' H1 H2 : Hp} {G G' Gv Gv' : Addr → Prop} {O O' O1 O2 F F1 F2 : List Addr} {Z : Addr → Prop} {env env1 env2 : Ev} {σ σ1 σ' : L2.St} {io : Nat → Bool} {W : WX} {D : Ends}
theorem Held.refl : Held io σ σ := ⟨rfl, fun _ _ => rfl⟩
theorem Held.trans (a : Held io σ σ1) (b : Held io σ1 σ') : Held io σ σ' := ⟨b.1.trans a.1, fun i h => (b.2 i h).trans (a.2 i h)⟩
theorem Held.set {i : Nat} {x : Option V} (h : io i = false) : Held io σ (σ.set i x) := ⟨List.length_set, fun j hj => by
  rw [List.getElem?_set_ne]
  rintro rfl
  rw [h] at hj; cases hj⟩
theorem Step.tr0 (a : Step O H O1 [] H1) (b : Step O1 H1 O2 F2 H2) : Step O H O2 F2 H2 := by simpa using a.trans b
theorem PostS.thenS {e : Ev} (st : Step O H O1 [] H1) (hi : Held io σ σ1) (p : PostS K Z O1 io σ1 H1 e σ' H') : PostS K Z O io σ H e σ' H' := by
  obtain ⟨O2, I, s⟩ := p.ex
  exact ⟨⟨O2, I, st.tr0 s⟩, hi.trans p.io⟩
theorem EndS.after (st : Step O H O1 [] H1) (hi : Held io σ σ1) : ∀ {r : Out}, EndS K mg W io D Z O σ H r → EndS K mg W io D Z O1 σ1 H1 r
  | .nx e, h => fun σ' H' p => h σ' H' (p.thenS st hi)
  | .ret m e, h => fun v σ' H' p => by
    obtain ⟨O2, F, I, r, nd, nz, s⟩ := p.ex
    exact h v σ' H' ⟨⟨O2, F, I, r, nd, nz, st.tr0 s⟩, hi.trans p.io⟩
  | .brk e, h => fun σ' H' p => h σ' H' (p.thenS st hi)
  | .ct e, h => fun σ' H' p => h σ' H' (p.thenS st hi)
  | .exn c e, h => fun cls d σ' H' p => by
    obtain ⟨O2, I, s⟩ := p.ex
    exact h cls d σ' H' ⟨⟨O2, I, st.tr0 s⟩, hi.trans p.io, p.er⟩
  | .stuck, h => h
/-- behind an evaluation whose value is dropped -/
theorem PostL.to {vs : List V} {xs : List Val} {q : Ql} (p : PostL K Z O env σ H vs H' xs env1 q) : ∃ O1, SI K Z O1 env1 σ H' ∧ Step O H O1 [] H' := by
  obtain ⟨O1, I, st, _⟩ := p.drop.after
  exact ⟨O1, I, st⟩
theorem EndS.exn {c : Exn} {e : Ev} (h : EndS K mg W io D Z O σ H (.exn c e)) : ∀ cls d H', PostX K mg Z O σ H cls d H' c e → W cls d σ H' := fun cls d H' p => h cls d σ H' ⟨p.ex, Held.refl, p.er⟩

/-! ### blocks -/
def dNx : Ev → Out := fun env => .nx env
def dSeq (a b : Ev → Out) : Ev → Out := fun env => match a env with
  | .nx e => b e
  | r => r
theorem tus_seq {a b : Ev → Out} (h : TUS K mg W io (dSeq a b) D σ H) : TUS K mg W io a { D with nx := TUS K mg W io b D } σ H := by
  obtain ⟨Z, O, env, I, h⟩ := h
  refine ⟨Z, O, env, I, ?_⟩
  unfold dSeq at h
  cases e : a env with
  | nx e1 =>
    rw [e] at h
    intro σ' H' p
    obtain ⟨O1, I1, st⟩ := p.ex
    exact ⟨Z, O1, e1, I1, h.after st p.io⟩
  | ret m e1 => rw [e] at h; exact h
  | brk e1 => rw [e] at h; exact h
  | ct e1 => rw [e] at h; exact h
  | exn c e1 => rw [e] at h; exact h
  | stuck => rw [e] at h; exact h
theorem tus_nx (h : TUS K mg W io dNx D σ H) : D.nx σ H := by
  obtain ⟨Z, O, env, I, h⟩ := h
  exact h σ H ⟨⟨O, I, Step.refl⟩, Held.refl⟩
end
section
variable {X : Cx} {io : Nat → Bool} {a b : Ev → Out} {f g h : Ev → Res} {s : Stmt} {ss : List Stmt} {e : Expr} {pos : Pos}
theorem sss_nil : SSs X io dNx [] := fun W tk => PSs.imp pss_nil fun D σ H h => tus_nx h
theorem sss_cons (h1 : SS X io a s) (h2 : SSs X io b ss) : SSs X io (dSeq a b) (s :: ss) := fun W tk => PSs.imp (pss_cons (h1 W tk) (h2 W tk)) fun D σ H h => tus_seq h
theorem sss_one (h1 : SS X io a s) : SSs X io a [s] := fun W tk => pss_one (h1 W tk)
theorem ss_pass : SS X io dNx (.Pass pos) := fun W tk => PS.imp ps_pass fun D σ H h => tus_nx h
def dBrk : Ev → Out := fun env => .brk env
def dCt : Ev → Out := fun env => .ct env
theorem ss_break : SS X io dBrk (.Break pos) := fun W tk => PS.imp ps_break fun D σ H ⟨Z, O, env, I, h⟩ => h σ H ⟨⟨O, I, Step.refl⟩, Held.refl⟩
theorem ss_continue : SS X io dCt (.Continue pos) := fun W tk => PS.imp ps_continue fun D σ H ⟨Z, O, env, I, h⟩ => h σ H ⟨⟨O, I, Step.refl⟩, Held.refl⟩
theorem ss_never : SS X io (fun _ => .stuck) s := fun W tk => PS.imp ps_never fun D σ H ⟨_, _, _, _, h⟩ => h
/-- an expression statement -/
def dEx (f : Ev → Res) : Ev → Out := fun env => match f env with
  | .ok _ e _ => .nx e
  | .exn c e => .exn c e
  | .stuck => .stuck
theorem ss_expr (he : SE X f e) (hs : swapsWith e none pos.line X.env = pure false := by rfl) : SS X io (dEx f) (.Expr e pos) := fun W tk => PS.imp (ps_expr (he W tk) hs) fun D σ H ⟨Z, O, env, I, h⟩ => by
  refine ⟨Z, O, env, I, ?_⟩
  unfold dEx at h
  cases ef : f env with
  | stuck => rw [ef] at h; exact h
  | exn c e1 => rw [ef] at h; exact EndS.exn h
  | ok x e1 q =>
    rw [ef] at h
    intro v H' p
    obtain ⟨O1, I1, st⟩ := p.to
    exact h σ H' ⟨⟨O1, I1, st⟩, Held.refl⟩
/-- return -/
def dRet (f : Ev → Res) : Ev → Out := fun env => match f env with
  | .ok (.own m) e _ => .ret m e
  | .ok (.vw _) _ _ => .stuck
  | .exn c e => .exn c e
  | .stuck => .stuck
theorem Post.own1 {K : PySem.W.Frag} {Z : Addr → Prop} {O : List Addr} {env env1 : Ev} {σ : L2.St} {H H' : Hp} {v : V} {m : M} {q : Ql} (p : Post K Z O env σ H v H' (.own m) env1 q) :
    ∃ O' F, SI K (Zp Z F) O' env1 σ H' ∧ RM K H' (fun a => ¬ Z a ∧ a ∉ O' ∧ a ∉ F) v m F ∧ F.Nodup ∧ (∀ a ∈ F, ¬ Z a) ∧ Step O H O' F H' := by
  obtain ⟨O', F, I, r, nd, nz, st, _⟩ := p.ex
  cases r with
  | own h hr => cases hr; rw [List.append_nil] at *; exact ⟨O', _, I, h, nd, nz, st⟩
theorem ss_ret (he : SE X f e) : SS X io (dRet f) (.Return (some e) pos) := fun W tk => PS.imp (ps_ret (he W tk)) fun D σ H ⟨Z, O, env, I, h⟩ => by
  refine ⟨Z, O, env, I, ?_⟩
  unfold dRet at h
  cases ef : f env with
  | stuck => rw [ef] at h; exact h
  | exn c e1 => rw [ef] at h; exact EndS.exn h
  | ok x e1 q =>
    rw [ef] at h
    cases x with
    | vw m => exact h.elim
    | own m => exact fun v H' p => h v σ H' ⟨p.own1, Held.refl⟩
def dRetN : Ev → Out := fun env => .ret (.fz .none) env
theorem ss_retN : SS X io dRetN (.Return none pos) := fun W tk => PS.imp ps_retN fun D σ H ⟨Z, O, env, I, h⟩ => h _ σ H ⟨⟨O, [], by rw [Zp_nil]; exact I, .fz .non, List.Pairwise.nil, (fun _ z => nomatch z), Step.refl⟩, Held.refl⟩
/-- if -/
def dIfS (f : Ev → Res) (a b : Ev → Out) : Ev → Out := fun env => match f env with
  | .ok (.own (.fz (.bool t))) e _ => (match t with
    | true => a e
    | false => b e)
  | .ok _ _ _ => .stuck
  | .exn c e => .exn c e
  | .stuck => .stuck
theorem ss_if {p q : List Stmt} {c : Expr} (hc : ST X f c) (ha : SSs X io a p) (hb : SSs X io b q) : SS X io (dIfS f a b) (.If c p q pos) := fun W tk => PS.imp (ps_if (hc W tk) (ha W tk) (hb W tk)) fun D σ H ⟨Z, O, env, I, h⟩ => by
  refine ⟨Z, O, env, I, ?_⟩
  unfold dIfS at h
  split at h
  · rename_i t e1 q ef
    rw [ef]
    refine ⟨t, rfl, fun H' p => ?_⟩
    obtain ⟨O1, I1, st⟩ := p.to
    cases t with
    | true => exact iteT ⟨Z, O1, e1, I1, h.after st Held.refl⟩
    | false => exact iteF ⟨Z, O1, e1, I1, h.after st Held.refl⟩
  · exact h.elim
  · rename_i c e1 ef
    rw [ef]
    exact EndS.exn h
  · exact h.elim
/-- frozen -/
def dFr (f : Ev → Res) : Ev → Res := fun env => match f env with
  | .ok (.own m) e q => (match frz m with
    | some d => .ok (.own (.fz d)) e q
    | none => .stuck)
  | .ok (.vw _) _ _ => .stuck
  | .exn c e => .exn c e
  | .stuck => .stuck
theorem Post.fr {K : PySem.W.Frag} {Z : Addr → Prop} {O : List Addr} {env env1 : Ev} {σ : L2.St} {H H' : Hp} {v : V} {m : M} {d : PyData} {q : Ql} (p : Post K Z O env σ H v H' (.own m) env1 q) (hd : frz m = some d) : Post K Z O env σ H v H' (.own (.fz d)) env1 q := by
  obtain ⟨O', F, I, r, nd, nz, st, qu, pp⟩ := p.ex
  obtain ⟨F', h, hs⟩ := r.own1
  have lo : ∀ a ∈ F, a ∉ O' := fun a ha z => I.nz a z (.inr ha)
  refine ⟨O', [], by rw [Zp_nil]; exact I.weak fun a z => .inl z, ?_, List.Pairwise.nil, (fun _ z => nomatch z), st.weak (fun _ z => nomatch z), qu, fun e => ⟨(pp e).1, (pp e).2.1, rfl⟩⟩
  exact .own (.fz (h.freeze hd (fun a g => ⟨g.1, g.2.1, fun z => nomatch z⟩) fun a ha => ⟨nz a (hs.subset ha), lo a (hs.subset ha), fun z => nomatch z⟩)) .nil
theorem se_fr (he : SE X f e) : SE X (dFr f) e := fun W tk => PE.imp (he W tk) fun σ H Q ⟨Z, O, env, I, h⟩ => by
  refine ⟨Z, O, env, I, ?_⟩
  unfold dFr at h
  cases ef : f env with
  | stuck => rw [ef] at h; exact h
  | exn c e1 => rw [ef] at h; exact h
  | ok x e1 q =>
    rw [ef] at h
    cases x with
    | vw m => exact h.elim
    | own m =>
      cases ed : frz m with
      | none => simp only [ed] at h
      | some d =>
        simp only [ed] at h
        exact fun v H' p => h v H' (p.fr ed)
end
/-! ### names -/
section
variable {K : PySem.W.Frag} {mg : Str → Option Value} {H H' H1 H2 : Hp} {G G' Gv Gv' : Addr → Prop} {O O' O1 O2 F F1 F2 : List Addr} {Z : Addr → Prop} {env env1 env2 : Ev} {σ σ1 σ' : L2.St} {io : Nat → Bool} {W : WX} {D : Ends}
/-- a value comes into a slot -/
theorem SI.put {i : Nat} {v : V} {m : M} (I : SI K (Zp Z F) O1 env1 σ H1) (hi : i < env1.length) (r : RM K H1 (fun a => ¬ Z a ∧ a ∉ O1 ∧ a ∉ F) v m F) (nd : F.Nodup) (nz : ∀ a ∈ F, ¬ Z a) (st : Step O H O1 F H1) : ∃ O2, SI K Z O2 (env1.set i (some m)) (σ.set i (some v)) H1 ∧ Step O H O2 [] H1 := by
  obtain ⟨Fs, s, rfl⟩ := I.sl
  have hl := s.len
  have hi' : i < Fs.length := by omega
  have he : Fs[i]? = some Fs[i] := List.getElem?_eq_getElem hi'
  have sub : ∀ a, a ∈ (Fs.set i F).flatten → a ∈ Fs.flatten ∨ a ∈ F := fun a => mem_flat_set
  have nF : ∀ a ∈ F, a ∉ Fs.flatten := fun a ha z => I.nz a z (.inr ha)
  refine ⟨(Fs.set i F).flatten, ⟨⟨_, Slots.put (s.imp fun a g => ⟨fun z => g.1 (.inl z), fun z => (sub a z).elim g.2 fun z => g.1 (.inr z)⟩) (r.imp fun a g => ⟨g.1, fun z => (sub a z).elim g.2.1 g.2.2⟩), rfl⟩, nodup_flat_set I.nd he nd fun a ha => .inr (nF a ha), fun a ha z => ?_, fun a z => I.zt a (.inl z)⟩, ⟨fun a o n e => ?_⟩⟩
  · rcases sub a ha with q | q
    · exact I.nz a q (.inl z)
    · exact nz a q z
  · obtain ⟨e1, n1, n2⟩ := st.keep a o n e
    exact ⟨e1, fun z => (sub a z).elim n1 n2, fun z => nomatch z⟩
end
section
variable {X : Cx} {io : Nat → Bool} {a b : Ev → Out} {f g h : Ev → Res} {s : Stmt} {ss : List Stmt} {e : Expr} {pos : Pos}
def put1 (i : Nat) (m : M) (e : Ev) : Out := if i < e.length then .nx (e.set i (some m)) else .stuck
def dSet (i : Nat) (f : Ev → Res) : Ev → Out := fun env => match f env with
  | .ok (.own m) e _ => put1 i m e
  | .ok (.vw _) _ _ => .stuck
  | .exn c e => .exn c e
  | .stuck => .stuck
theorem ss_set {i : Nat} {x : Str} {pos' : Pos} (hN : X.N.Nodup) (hi : X.N[i]? = some x) (hx : Loc X.env.scope x) (he : SE X f e) (hio : io i = false := by rfl) (hs : swapsWith e (some (.Name x pos')) pos.line X.env = pure false := by rfl) (hf : X.fn x = true ∨ X.env.scope.names.lookup x = some .local := by first | exact .inl rfl | exact .inr rfl | assumption) :
    SS X io (dSet i f) (.Assign [.Name x pos'] e pos) := fun W tk => PS.imp (ps_set hN hi hx (he W tk) hs hf) fun D σ H ⟨Z, O, env, I, h⟩ => by
  refine ⟨Z, O, env, I, ?_⟩
  unfold dSet at h
  cases ef : f env with
  | stuck => rw [ef] at h; exact h
  | exn c e1 => rw [ef] at h; exact EndS.exn h
  | ok y e1 q =>
    rw [ef] at h
    cases y with
    | vw m => exact h.elim
    | own m =>
      intro v H' p
      simp only [put1] at h
      split at h
      · rename_i hl
        obtain ⟨O', F, I', r, nd, nz, st⟩ := p.own1
        obtain ⟨O2, I2, st2⟩ := I'.put hl r nd nz st
        exact h _ _ ⟨⟨O2, I2, st2⟩, Held.set hio⟩
      · exact h.elim
/-- two names at once -/
def dPar (i j : Nat) (f g : Ev → Res) : Ev → Out := fun env => match evs [f, g] env with
  | .ok [.own m, .own n] e _ => if i < e.length ∧ j < e.length then .nx ((e.set i (some m)).set j (some n)) else .stuck
  | .ok _ _ _ => .stuck
  | .exn c e => .exn c e
  | .stuck => .stuck
theorem RVs.two {K : PySem.W.Frag} {H : Hp} {G Gv : Addr → Prop} {vs : List V} {m n : M} {F : List Addr} (r : RVs K H G Gv vs [.own m, .own n] F) : ∃ v w F1 F2, vs = [v, w] ∧ F = F1 ++ F2 ∧ RM K H G v m F1 ∧ RM K H G w n F2 := by
  cases r with
  | own h r =>
    cases r with
    | own h' r => cases r; exact ⟨_, _, _, _, rfl, by rw [List.append_nil], h, h'⟩
theorem RVs.three {K : PySem.W.Frag} {H : Hp} {G Gv : Addr → Prop} {vs : List V} {m n l : M} {F : List Addr} (r : RVs K H G Gv vs [.own m, .own n, .own l] F) : ∃ v w u F1 F2 F3, vs = [v, w, u] ∧ F = F1 ++ (F2 ++ F3) ∧ RM K H G v m F1 ∧ RM K H G w n F2 ∧ RM K H G u l F3 := by
  cases r with
  | own h r =>
    obtain ⟨w, u, F2, F3, rfl, rfl, h2, h3⟩ := r.two
    exact ⟨_, w, u, _, F2, F3, rfl, rfl, h, h2, h3⟩
/-- the first of two footprints goes into a slot, the second stays out -/
theorem SI.put2 {K : PySem.W.Frag} {Z : Addr → Prop} {O O1 F1 F2 : List Addr} {env1 : Ev} {σ : L2.St} {H H1 : Hp} {i : Nat} {v : V} {m : M} (I : SI K (Zp Z (F1 ++ F2)) O1 env1 σ H1) (hi : i < env1.length) (r : RM K H1 (fun a => ¬ Z a ∧ a ∉ O1 ∧ a ∉ F1 ++ F2) v m F1) (nd : (F1 ++ F2).Nodup) (nz : ∀ a ∈ F1 ++ F2, ¬ Z a) (st : Step O H O1 (F1 ++ F2) H1) :
    ∃ O2, SI K (Zp Z F2) O2 (env1.set i (some m)) (σ.set i (some v)) H1 ∧ Step O H O2 F2 H1 ∧ (∀ a, (¬ Z a ∧ a ∉ O1 ∧ a ∉ F1 ++ F2) → (¬ Z a ∧ a ∉ O2 ∧ a ∉ F2)) := by
  obtain ⟨n1, n2, n3⟩ := List.nodup_append.mp nd
  have I' : SI K (Zp (Zp Z F2) F1) O1 env1 σ H1 := I.weak fun a z => by
    rcases z with (z | z) | z
    · exact .inl z
    · exact .inr (List.mem_append_right _ z)
    · exact .inr (List.mem_append_left _ z)
  have zt : ∀ a, Zp Z F2 a → ∃ o, H1 a = some o := fun a z => I'.zt a (.inl z)
  obtain ⟨Fs, s, rfl⟩ := I'.sl
  have hl := s.len
  have hi' : i < Fs.length := by omega
  have he : Fs[i]? = some Fs[i] := List.getElem?_eq_getElem hi'
  have sub : ∀ a, a ∈ (Fs.set i F1).flatten → a ∈ Fs.flatten ∨ a ∈ F1 := fun a => mem_flat_set
  have nF : ∀ a ∈ F1, a ∉ Fs.flatten := fun a ha z => I'.nz a z (.inr ha)
  refine ⟨(Fs.set i F1).flatten, ⟨⟨_, Slots.put (s.imp fun a g => ⟨fun z => g.1 (.inl z), fun z => (sub a z).elim g.2 fun z => g.1 (.inr z)⟩) (r.imp fun a g => ⟨fun z => z.elim g.1 fun z => g.2.2 (List.mem_append_right _ z), fun z => (sub a z).elim g.2.1 fun z => g.2.2 (List.mem_append_left _ z)⟩), rfl⟩, nodup_flat_set I'.nd he n1 fun a ha => .inr (nF a ha), fun a ha z => ?_, zt⟩, ⟨fun a o n e => ?_⟩, fun a g => ⟨g.1, fun z => (sub a z).elim g.2.1 fun z => g.2.2 (List.mem_append_left _ z), fun z => g.2.2 (List.mem_append_right _ z)⟩⟩
  · rcases sub a ha with q | q
    · exact I'.nz a q (.inl z)
    · rcases z with z | z
      · exact nz a (List.mem_append_left _ q) z
      · exact n3 a q a z rfl
  · obtain ⟨e1, m1, m2⟩ := st.keep a o n e
    exact ⟨e1, fun z => (sub a z).elim m1 fun z => m2 (List.mem_append_left _ z), fun z => m2 (List.mem_append_right _ z)⟩
theorem ss_par {i j : Nat} {x y : Str} {c d : Expr} {px py pt : Pos} {kt k2 pt2} (hc : X.calm = true) (hN : X.N.Nodup) (hi : X.N[i]? = some x) (hj : X.N[j]? = some y) (hij : i ≠ j)
    (hx : X.env.scope.names.lookup x = some .local) (hy : X.env.scope.names.lookup y = some .local) (ha : SA X (evs [f, g]) [c, d])
    (hw : swappedStores [.Tuple [.Name x px, .Name y py] kt pt] (.Tuple [c, d] k2 pt2) X.env = pure (some [x, y])) (hio : io i = false := by rfl) (hjo : io j = false := by rfl)
    (hs : swapsWithSole [.Tuple [.Name x px, .Name y py] kt pt] (.Tuple [c, d] k2 pt2) pos.line X.env = pure false := by rfl) :
    SS X io (dPar i j f g) (.Assign [.Tuple [.Name x px, .Name y py] kt pt] (.Tuple [c, d] k2 pt2) pos) := fun W tk => PS.imp (ps_par hc hN hi hj hij hx hy (ha W tk) hw hs) fun D σ H ⟨Z, O, env, I, h⟩ => by
  refine ⟨Z, O, env, I, ?_⟩
  unfold dPar at h
  split at h
  · rename_i m n e1 q ef
    rw [ef]
    split at h
    · rename_i hl
      intro vs H' p
      obtain ⟨O', F, I', r, nd, nz, st, _⟩ := p.ex
      obtain ⟨v, w, F1, F2, rfl, rfl, r1, r2⟩ := r.two
      obtain ⟨O2, I2, st2, gg⟩ := I'.put2 hl.1 r1 nd nz st
      obtain ⟨O3, I3, st3⟩ := I2.put (i := j) (by rw [List.length_set]; exact hl.2) (r2.imp gg) (List.nodup_append.mp nd).2.1 (fun a ha => nz a (List.mem_append_right _ ha)) st2
      exact ⟨v, w, rfl, h _ _ ⟨⟨O3, I3, st3⟩, (Held.set hio).trans (Held.set hjo)⟩⟩
    · exact h.elim
  · exact h.elim
  · rename_i c e1 ef
    rw [ef]
    exact EndS.exn h
  · exact h.elim
def dPar3 (i j l : Nat) (f g k : Ev → Res) : Ev → Out := fun env => match evs [f, g, k] env with
  | .ok [.own m, .own n, .own o] e _ => if i < e.length ∧ j < e.length ∧ l < e.length then .nx (((e.set i (some m)).set j (some n)).set l (some o)) else .stuck
  | .ok _ _ _ => .stuck
  | .exn c e => .exn c e
  | .stuck => .stuck
theorem ss_par3 {i j l : Nat} {x y z : Str} {c d e : Expr} {px py pz pt : Pos} {kt k2 pt2} (hc : X.calm = true) (hN : X.N.Nodup) (hi : X.N[i]? = some x) (hj : X.N[j]? = some y) (hl : X.N[l]? = some z) (hij : i ≠ j) (hil : i ≠ l) (hjl : j ≠ l)
    (hx : X.env.scope.names.lookup x = some .local) (hy : X.env.scope.names.lookup y = some .local) (hz : X.env.scope.names.lookup z = some .local) (ha : SA X (evs [f, g, h]) [c, d, e])
    (hw : swappedStores [.Tuple [.Name x px, .Name y py, .Name z pz] kt pt] (.Tuple [c, d, e] k2 pt2) X.env = pure (some [x, y, z])) (hio : io i = false := by rfl) (hjo : io j = false := by rfl) (hlo : io l = false := by rfl)
    (hs : swapsWithSole [.Tuple [.Name x px, .Name y py, .Name z pz] kt pt] (.Tuple [c, d, e] k2 pt2) pos.line X.env = pure false := by rfl) :
    SS X io (dPar3 i j l f g h) (.Assign [.Tuple [.Name x px, .Name y py, .Name z pz] kt pt] (.Tuple [c, d, e] k2 pt2) pos) := fun W tk => PS.imp (ps_par3 hc hN hi hj hl hij hil hjl hx hy hz (ha W tk) hw hs) fun D σ H ⟨Z, O, env, I, h⟩ => by
  refine ⟨Z, O, env, I, ?_⟩
  unfold dPar3 at h
  split at h
  · rename_i m n o e1 q ef
    rw [ef]
    split at h
    · rename_i hl
      intro vs H' p
      obtain ⟨O', F, I', r, nd, nz, st, _⟩ := p.ex
      obtain ⟨v, w, u, F1, F2, F3, rfl, rfl, r1, r2, r3⟩ := r.three
      obtain ⟨O2, I2, st2, gg⟩ := I'.put2 hl.1 r1 nd nz st
      have nd2 := (List.nodup_append.mp nd).2.1
      have nz2 : ∀ a ∈ F2 ++ F3, ¬ Z a := fun a ha => nz a (List.mem_append_right _ ha)
      obtain ⟨O3, I3, st3, gg3⟩ := I2.put2 (i := j) (by rw [List.length_set]; exact hl.2.1) (r2.imp gg) nd2 nz2 st2
      obtain ⟨O4, I4, st4⟩ := I3.put (i := l) (by rw [List.length_set, List.length_set]; exact hl.2.2) (r3.imp fun a z => gg3 a (gg a z)) (List.nodup_append.mp nd2).2.1 (fun a ha => nz2 a (List.mem_append_right _ ha)) st3
      exact ⟨v, w, u, rfl, h _ _ ⟨⟨O4, I4, st4⟩, ((Held.set hio).trans (Held.set hjo)).trans (Held.set hlo)⟩⟩
    · exact h.elim
  · exact h.elim
  · rename_i c e1 ef
    rw [ef]
    exact EndS.exn h
  · exact h.elim
end
end Q

set_option Elab.async false
set_option linter.all false
set_option maxRecDepth 100000
set_option maxHeartbeats 4000000
/-! Targets; what is written into a list that a name owns. -/
namespace Q
open PySem PySem.Spec PyProof.Rows L2

section
variable {K : PySem.W.Frag} {mg : Str → Option Value} {H H' H1 H2 : Hp} {G G' Gv Gv' : Addr → Prop} {O O' O1 O2 F F' F1 F2 : List Addr} {Z : Addr → Prop} {env env1 env2 : Ev} {σ σ1 σ' : L2.St} {io : Nat → Bool} {W : WX} {D : Ends}
theorem RMs.setAt : ∀ {vs : List V} {ms : List M} {F : List Addr} {j : Nat} {v : V} {m : M}, RMs K H G vs ms F → RM K H G v m F' → ∃ F2, RMs K H G (vs.set j v) (ms.set j m) F2 ∧ (∀ b ∈ F2, b ∈ F ∨ b ∈ F') ∧ ((F ++ F').Nodup → F2.Nodup)
  | _, _, _, _, _, _, .nil, r => ⟨[], .nil, (fun _ z => nomatch z), fun _ => List.Pairwise.nil⟩
  | _, _, _, 0, _, _, .cons (F := Fa) (F' := Fb) h t, r => ⟨F' ++ Fb, .cons r t, fun b hb => (List.mem_append.mp hb).elim .inr fun z => .inl (List.mem_append_right _ z), fun nd => by
      obtain ⟨n1, n2, n3⟩ := List.nodup_append.mp nd
      exact List.nodup_append.mpr ⟨n2, (List.nodup_append.mp n1).2.1, fun a ha b hb e => n3 b (List.mem_append_right _ hb) a ha e.symm⟩⟩
  | _, _, _, j + 1, _, _, .cons (F := Fa) (F' := Fb) h t, r => by
    obtain ⟨F2, r2, s2, d2⟩ := RMs.setAt (j := j) t r
    refine ⟨Fa ++ F2, .cons h r2, fun b hb => ?_, fun nd => ?_⟩
    · rcases List.mem_append.mp hb with z | z
      · exact .inl (List.mem_append_left _ z)
      · exact (s2 b z).imp (fun z => List.mem_append_right _ z) id
    · rw [List.append_assoc] at nd
      obtain ⟨n1, n2, n3⟩ := List.nodup_append.mp nd
      refine List.nodup_append.mpr ⟨n1, d2 n2, fun a ha b hb e => n3 a ha b ?_ e⟩
      exact (s2 b hb).elim (fun z => List.mem_append_left _ z) fun z => List.mem_append_right _ z
theorem RMs.app : ∀ {vs : List V} {ms : List M} {F : List Addr} {v : V} {m : M}, RMs K H G vs ms F → RM K H G v m F' → RMs K H G (vs ++ [v]) (ms ++ [m]) (F ++ F')
  | _, _, _, _, _, .nil, r => by simpa using RMs.cons r .nil
  | _, _, _, _, _, .cons h t, r => by rw [List.append_assoc]; exact .cons h (RMs.app t r)
/-- one of the trees is changed in its place -/
theorem RMs.at : ∀ {vs : List V} {ms : List M} {F : List Addr} {i : Nat} {m : M}, RMs K H G vs ms F → ms[i]? = some m → ∃ v Fa Fi Fb, vs[i]? = some v ∧ F = Fa ++ (Fi ++ Fb) ∧ RM K H G v m Fi ∧
    ∀ {H' : Hp} {G' : Addr → Prop} {m' : M} {Fi' : List Addr}, (∀ b o, b ∉ Fi → H b = some o → H' b = some o) → F.Nodup → (∀ b, G b → G' b) → (∀ b ∈ Fi, ¬ G b) → OM H Fi → RM K H' G' v m' Fi' → RMs K H' G' vs (ms.set i m') (Fa ++ (Fi' ++ Fb))
  | _, _, _, 0, _, .cons (F := Fa) (F' := Fb) h t, e => by
    simp at e; subst e
    refine ⟨_, [], Fa, Fb, rfl, rfl, h, fun {H' G' m' Fi'} fr nd gg ng om r => ?_⟩
    rw [List.nil_append]
    refine .cons r (t.step om (fun a g ha => ng a ha g) (fun a ha hb => ?_) fr fun a _ g _ => gg a g)
    exact (List.nodup_append.mp nd).2.2 a hb a ha rfl
  | _, _, _, i + 1, _, .cons (F := F0) (F' := Fr) h t, e => by
    obtain ⟨v, Fa, Fi, Fb, e1, e2, r, k⟩ := RMs.at (i := i) t (by simpa using e)
    subst e2
    refine ⟨v, F0 ++ Fa, Fi, Fb, by simpa using e1, by rw [List.append_assoc], r, fun {H' G' m' Fi'} fr nd gg ng om r' => ?_⟩
    rw [List.append_assoc]
    obtain ⟨n1, n2, n3⟩ := List.nodup_append.mp nd
    refine .cons (h.step om (fun a g ha => ng a ha g) (fun a ha hb => n3 a ha a ?_ rfl) fr fun a _ g _ => gg a g) (k fr n2 gg ng om r')
    exact List.mem_append_right _ (List.mem_append_left _ hb)
/-- the way down a path -/
inductive Way (K : PySem.W.Frag) (H : Hp) : V → List Nat → Addr → Prop
  | nil {a : Addr} : Way K H (.ref a) [] a
  | lst {b a : Addr} {xs : List V} {i : Nat} {is : List Nat} {w : V} : H b = some (.lst xs) → xs[i]? = some w → Way K H w is a → Way K H (.ref b) (i :: is) a
def M.wr : List Nat → (List M → Option (List M)) → M → Option M
  | [], f, .lst ms => (f ms).map .lst
  | i :: is, f, .lst ms => match ms[i]? with
    | some m => (M.wr is f m).map fun m' => .lst (ms.set i m')
    | none => none
  | _, _, _ => none
theorem RM.wr : ∀ {p : List Nat} {f : List M → Option (List M)} {m m' : M} {v : V} {F : List Addr}, RM K H G v m F → F.Nodup → (∀ b ∈ F, ¬ G b) → M.wr p f m = some m' →
    ∃ a xs ms Fr ms', Way K H v p a ∧ H a = some (.lst xs) ∧ RMs K H G xs ms Fr ∧ f ms = some ms' ∧ a ∈ F ∧ Fr.Nodup ∧ (∀ b ∈ Fr, b ∈ F ∧ b ≠ a) ∧
    ∀ {xs' : List V} {Fr' : List Addr} {G' : Addr → Prop}, RMs K (upd H a (.lst xs')) G' xs' ms' Fr' → (∀ b, G b → G' b) → Fr'.Nodup → a ∉ Fr' → (∀ b ∈ Fr', b ∈ Fr ∨ b ∉ F) → ∃ F', RM K (upd H a (.lst xs')) G' v m' F' ∧ F'.Nodup ∧ ∀ b ∈ F', b ∈ F ∨ b ∈ Fr'
  | [], f, m, m', v, F, r, nd, ng, e => by
    cases r with
    | lst h rs =>
      rename_i a xs ms F0
      unfold M.wr at e
      obtain ⟨ms', e1, rfl⟩ := Option.map_eq_some_iff.mp e
      obtain ⟨n1, n2⟩ := List.nodup_cons.mp nd
      refine ⟨a, xs, ms, F0, ms', .nil, h, rs, e1, List.mem_cons_self, n2, fun b hb => ⟨List.mem_cons_of_mem _ hb, fun z => n1 (z ▸ hb)⟩, fun {xs' Fr' G'} r' gg nd' na' sub => ⟨a :: Fr', .lst upd_same r', List.nodup_cons.mpr ⟨na', nd'⟩, fun b hb => ?_⟩⟩
      rcases List.mem_cons.mp hb with z | z
      · exact .inl (by rw [z]; exact List.mem_cons_self)
      · exact .inr z
    | fz h => unfold M.wr at e; cases e
    | tup h rs => unfold M.wr at e; cases e
    | dK h rs => unfold M.wr at e; cases e
    | dT h rs => unfold M.wr at e; cases e
  | i :: is, f, m, m', v, F, r, nd, ng, e => by
    cases r with
    | lst h rs =>
      rename_i a0 xs0 ms0 F0
      unfold M.wr at e
      cases ei : ms0[i]? with
      | none => simp only [ei] at e; cases e
      | some mi =>
        simp only [ei] at e
        obtain ⟨mi', e1, rfl⟩ := Option.map_eq_some_iff.mp e
        obtain ⟨n1, n2⟩ := List.nodup_cons.mp nd
        obtain ⟨w, Fa, Fi, Fb, ew, rfl, rw', k⟩ := rs.at ei
        have ndi : Fi.Nodup := (List.nodup_append.mp (List.nodup_append.mp n2).2.1).1
        have inF : ∀ b ∈ Fi, b ∈ a0 :: (Fa ++ (Fi ++ Fb)) := fun b hb => List.mem_cons_of_mem _ (List.mem_append_right _ (List.mem_append_left _ hb))
        obtain ⟨a, xs, ms, Fr, ms', wy, ha, rms, ef, af, nr, sr, go⟩ := RM.wr rw' ndi (fun b hb => ng b (inF b hb)) e1
        refine ⟨a, xs, ms, Fr, ms', .lst h ew wy, ha, rms, ef, inF a af, nr, fun b hb => ⟨inF b (sr b hb).1, (sr b hb).2⟩, fun {xs' Fr' G'} r' gg nd' na' sub => ?_⟩
        obtain ⟨F', rF, nF, sF⟩ := go r' gg nd' na' fun b hb => (sub b hb).imp id fun z q => z (inF b q)
        have ne : a0 ≠ a := fun z => n1 (by rw [z]; exact List.mem_append_right _ (List.mem_append_left _ af))
        have om : OM H Fi := OM.of rw'.owd
        have fr : ∀ b o, b ∉ Fi → H b = some o → upd H a (.lst xs') b = some o := fun b o n e => by
          rw [upd_ne (fun z => n (by rw [z]; exact af))]; exact e
        refine ⟨a0 :: (Fa ++ (F' ++ Fb)), .lst (by rw [upd_ne ne]; exact h) (k fr n2 gg (fun b hb => ng b (inF b hb)) om rF), ?_, fun b hb => ?_⟩
        · obtain ⟨q1, q2, q3⟩ := List.nodup_append.mp n2
          obtain ⟨q4, q5, q6⟩ := List.nodup_append.mp q2
          have out : ∀ b ∈ F', b ∈ Fi ∨ b ∉ a0 :: (Fa ++ (Fi ++ Fb)) := fun b hb => (sF b hb).elim .inl fun z => (sub b z).elim (fun z => .inl (sr b z).1) .inr
          refine List.nodup_cons.mpr ⟨fun z => ?_, List.nodup_append.mpr ⟨q1, List.nodup_append.mpr ⟨nF, q5, fun x hx y hy e => ?_⟩, fun x hx y hy e => ?_⟩⟩
          · rcases List.mem_append.mp z with z | z
            · exact n1 (List.mem_append_left _ z)
            · rcases List.mem_append.mp z with z | z
              · rcases out _ z with q | q
                · exact n1 (List.mem_append_right _ (List.mem_append_left _ q))
                · exact q List.mem_cons_self
              · exact n1 (List.mem_append_right _ (List.mem_append_right _ z))
          · subst e
            rcases out _ hx with q | q
            · exact q6 x q x hy rfl
            · exact q (List.mem_cons_of_mem _ (List.mem_append_right _ (List.mem_append_right _ hy)))
          · subst e
            rcases List.mem_append.mp hy with z | z
            · rcases out _ z with q | q
              · exact q3 x hx x (List.mem_append_left _ q) rfl
              · exact q (List.mem_cons_of_mem _ (List.mem_append_left _ hx))
            · exact q3 x hx x (List.mem_append_right _ z) rfl
        · rcases List.mem_cons.mp hb with z | z
          · exact .inl (by rw [z]; exact List.mem_cons_self)
          · rcases List.mem_append.mp z with z | z
            · exact .inl (List.mem_cons_of_mem _ (List.mem_append_left _ z))
            · rcases List.mem_append.mp z with z | z
              · exact (sF b z).imp (inF b) id
              · exact .inl (List.mem_cons_of_mem _ (List.mem_append_right _ (List.mem_append_right _ z)))
    | fz h => unfold M.wr at e; cases e
    | tup h rs => unfold M.wr at e; cases e
    | dK h rs => unfold M.wr at e; cases e
    | dT h rs => unfold M.wr at e; cases e
theorem Slots.stepL : ∀ {env : Ev} {σ : L2.St} {Fs : List (List Addr)} {i : Nat} {m : M} {v : V} {F' : List Addr}, Slots K H G env σ Fs → OM H O → (∀ b, G b → b ∉ O) → (∀ j F, j ≠ i → Fs[j]? = some F → ∀ b ∈ F, b ∉ O) → (∀ b o, b ∉ O → H b = some o → H' b = some o) → (∀ b, G b → G' b) → σ[i]? = some (some v) → RM K H' G' v m F' → Slots K H' G' (env.set i (some m)) σ (Fs.set i F')
  | _, _, _, _, _, _, _, .nil, _, _, _, _, _, _, _ => .nil
  | _, _, _, 0, _, _, _, .non r, om, go, ff, fr, gg, e, h => by simp at e; subst e; exact .som h (Slots.all r om go (fun j F ej b hb => ff (j + 1) F (by omega) (by simpa using ej) b hb) fr gg)
  | _, _, _, 0, _, _, _, .som _ r, om, go, ff, fr, gg, e, h => by simp at e; subst e; exact .som h (Slots.all r om go (fun j F ej b hb => ff (j + 1) F (by omega) (by simpa using ej) b hb) fr gg)
  | _, _, _, i + 1, _, _, _, .non r, om, go, ff, fr, gg, e, h => .non (Slots.stepL r om go (fun j F n ej b hb => ff (j + 1) F (by omega) (by simpa using ej) b hb) fr gg (by simpa using e) h)
  | _, _, _, i + 1, _, _, _, .som h0 r, om, go, ff, fr, gg, e, h => .som (h0.step om (fun a g => go a g) (fun a ha => ff 0 _ (by omega) (by simp) a ha) fr fun a _ g _ => gg a g) (Slots.stepL r om go (fun j F n ej b hb => ff (j + 1) F (by omega) (by simpa using ej) b hb) fr gg (by simpa using e) h)
where
  Slots.all : ∀ {env : Ev} {σ : L2.St} {Fs : List (List Addr)}, Slots K H G env σ Fs → OM H O → (∀ b, G b → b ∉ O) → (∀ (j : Nat) F, Fs[j]? = some F → ∀ b ∈ F, b ∉ O) → (∀ b o, b ∉ O → H b = some o → H' b = some o) → (∀ b, G b → G' b) → Slots K H' G' env σ Fs
  | _, _, _, .nil, _, _, _, _, _ => .nil
  | _, _, _, .non r, om, go, ff, fr, gg => .non (Slots.all r om go (fun j F ej => ff (j + 1) F (by simpa using ej)) fr gg)
  | _, _, _, .som h0 r, om, go, ff, fr, gg => .som (h0.step om (fun a g => go a g) (fun a ha => ff 0 _ (by simp) a ha) fr fun a _ g _ => gg a g) (Slots.all r om go (fun j F ej => ff (j + 1) F (by simpa using ej)) fr gg)
theorem flat_apart : ∀ {Fs : List (List Addr)} {i j : Nat} {Fi Fj : List Addr}, Fs.flatten.Nodup → Fs[i]? = some Fi → Fs[j]? = some Fj → i ≠ j → ∀ b ∈ Fi, b ∉ Fj
  | [], _, _, _, _, _, e, _, _ => by simp at e
  | x :: r, 0, 0, _, _, _, _, _, h => absurd rfl h
  | x :: r, 0, j + 1, Fi, Fj, nd, e1, e2, _ => fun b hb hc => by
    simp at e1; subst e1
    rw [List.flatten_cons] at nd
    exact (List.nodup_append.mp nd).2.2 b hb b (mem_flat_at (i := j) (by simpa using e2) hc) rfl
  | x :: r, i + 1, 0, Fi, Fj, nd, e1, e2, _ => fun b hb hc => by
    simp at e2; subst e2
    rw [List.flatten_cons] at nd
    exact (List.nodup_append.mp nd).2.2 b hc b (mem_flat_at (i := i) (by simpa using e1) hb) rfl
  | x :: r, i + 1, j + 1, Fi, Fj, nd, e1, e2, h => by
    rw [List.flatten_cons] at nd
    exact flat_apart (List.nodup_append.mp nd).2.1 (i := i) (j := j) (by simpa using e1) (by simpa using e2) (by omega)
/-- a list of a slot's tree is written; F: what comes in from outside -/
theorem SI.wr {s : Nat} {p : List Nat} {f : List M → Option (List M)} {m m' : M} (I : SI K (Zp Z F) O env σ H) (e : env[s]? = some (some m)) (ew : M.wr p f m = some m') :
    ∃ v a xs ms Fr ms', σ[s]? = some (some v) ∧ Way K H v p a ∧ H a = some (.lst xs) ∧ a ∈ O ∧ RMs K H (fun b => ¬ Zp Z F b ∧ b ∉ O) xs ms Fr ∧ f ms = some ms' ∧ (∀ b ∈ Fr, b ∈ O) ∧ Fr.Nodup ∧
    ∀ {xs' : List V} {Fr' : List Addr} {O0 : List Addr} {H0 : Hp}, RMs K H (fun b => ¬ Z b ∧ b ∉ O ∧ b ∉ F) xs' ms' Fr' → Fr'.Nodup → (∀ b ∈ Fr', b ∈ Fr ∨ b ∈ F) → (∀ b ∈ F, ¬ Z b) → Step O0 H0 O F H →
      ∃ O2, SI K Z O2 (env.set s (some m')) σ (upd H a (.lst xs')) ∧ Step O0 H0 O2 [] (upd H a (.lst xs')) := by
  obtain ⟨Fs, sl, rfl⟩ := I.sl
  obtain ⟨v, Fv, h1, h2, h3⟩ := sl.get e
  have ndv : Fv.Nodup := by
    have key : ∀ {Fs : List (List Addr)} {i : Nat}, Fs.flatten.Nodup → Fs[i]? = some Fv → Fv.Nodup := by
      intro Fs
      induction Fs with
      | nil => intro i _ h; simp at h
      | cons y r ih =>
        intro i nd h
        rw [List.flatten_cons] at nd
        cases i with
        | zero => simp at h; subst h; exact (List.nodup_append.mp nd).1
        | succ i => exact ih (List.nodup_append.mp nd).2.1 (by simpa using h)
    exact key I.nd h2
  have inO : ∀ b ∈ Fv, b ∈ Fs.flatten := fun b hb => mem_flat_at h2 hb
  obtain ⟨a, xs, ms, Fr, ms', wy, ha, rms, ef, af, nr, sr, go⟩ := RM.wr h3 ndv (fun b hb g => g.2 (inO b hb)) ew
  refine ⟨v, a, xs, ms, Fr, ms', h1, wy, ha, inO a af, rms, ef, fun b hb => inO b (sr b hb).1, nr, fun {xs' Fr' O0 H0} r' nd' sub nz st => ?_⟩
  have fr : ∀ b o, b ∉ [a] → H b = some o → upd H a (.lst xs') b = some o := fun b o n e => by
    rw [upd_ne (fun z => n (by rw [z]; exact List.mem_cons_self))]; exact e
  have nF : ∀ b ∈ F, b ∉ Fs.flatten := fun b hb z => I.nz b z (.inr hb)
  have aFr' : a ∉ Fr' := fun z => (sub a z).elim (fun z => (sr a z).2 rfl) fun z => nF a z (inO a af)
  have om : OM H [a] := fun b hb => I.om b (by rw [List.mem_singleton.mp hb]; exact inO a af)
  -- the list's new items, behind the write
  have rn : RMs K (upd H a (.lst xs')) (fun b => ¬ Z b ∧ (b ∉ Fs.flatten ∨ b ∈ Fv ∧ False) ∧ b ∉ F) xs' ms' Fr' := r'.step om (fun b g hb => g.2.1 (by rw [List.mem_singleton.mp hb]; exact inO a af)) (fun b hb hc => aFr' (by rw [← List.mem_singleton.mp hc]; exact hb)) fr fun b o g _ => ⟨g.1, .inl g.2.1, g.2.2⟩
  obtain ⟨F', rF, ndF, sF⟩ := go rn (fun b g => ⟨fun z => g.1 (.inl z), .inl g.2, fun z => g.1 (.inr z)⟩) nd' aFr' fun b hb => (sub b hb).imp id fun z q => nF b z (inO b q)
  have sF2 : ∀ b ∈ F', b ∈ Fv ∨ b ∈ F := fun b hb => (sF b hb).elim .inl fun z => (sub b z).elim (fun z => .inl (sr b z).1) .inr
  have all : ∀ b, b ∈ (Fs.set s F').flatten → b ∈ Fs.flatten ∨ b ∈ F := fun b hb => (mem_flat_set hb).elim .inl fun z => (sF2 b z).imp (inO b) id
  refine ⟨(Fs.set s F').flatten, ⟨⟨_, Slots.stepL (O := [a]) (G' := fun b => ¬ Z b ∧ b ∉ (Fs.set s F').flatten) sl om (fun b g hb => g.2 (by rw [List.mem_singleton.mp hb]; exact inO a af)) (fun j Fj hj ej b hb hc => ?_) fr (fun b g => ⟨fun z => g.1 (.inl z), fun z => (all b z).elim g.2 fun z => g.1 (.inr z)⟩) h1 (rF.imp fun b g => ⟨g.1, fun z => ?_⟩), rfl⟩, nodup_flat_set I.nd h2 ndF fun b hb => (sF2 b hb).imp id (nF b), fun b hb z => ?_, fun b z => ?_⟩, ⟨fun b o n e => ?_⟩⟩
  · rw [List.mem_singleton.mp hc] at hb
    exact flat_apart I.nd h2 ej (Ne.symm hj) a af hb
  · rcases all b z with q | q
    · exact g.2.1.elim (fun w => w q) fun w => w.2
    · exact g.2.2 q
  · exact (all b hb).elim (fun q => I.nz b q (.inl z)) fun q => nz b q z
  · by_cases q : b = a
    · exact ⟨_, by rw [q]; exact upd_same⟩
    · obtain ⟨o, e⟩ := I.zt b (.inl z)
      exact ⟨o, by rw [upd_ne q]; exact e⟩
  · obtain ⟨e1, n1, n2⟩ := st.keep b o n e
    have q : b ≠ a := fun z => n1 (by rw [z]; exact inO a af)
    exact ⟨by rw [upd_ne q]; exact e1, fun z => (all b z).elim n1 n2, fun z => nomatch z⟩
end
end Q

set_option Elab.async false
set_option linter.all false
set_option maxRecDepth 100000
set_option maxHeartbeats 4000000
/-! What is walked; for; while. -/
namespace Q
open PySem PySem.Spec PyProof.Rows L2

/-! ### targets, for frozen data -/
abbrev Tg := PyData → Ev → Option Ev
def TUG (K : PySem.W.Frag) (io : Nat → Bool) (ql : Bool) (p : Tg) : TG := fun v σ H Q => ∃ Z O env d, SI K Z O env σ H ∧ RF K H (fun a => ¬ Z a ∧ a ∉ O) v d ∧
  match p d env with
  | some e => ∀ σ' H', PostS K Z O io σ H e σ' H' → (ql = true → Quiet H H') → Q σ' H'
  | none => False
def SG (X : Cx) (io : Nat → Bool) (ql : Bool) (p : Tg) (e : Expr) : Prop := PG X e (TUG X.K io ql p)
def goT : List Tg → List PyData → Ev → Option Ev
  | [], [], e => some e
  | p :: ps, d :: ds, e => (p d e).bind fun e' => goT ps ds e'
  | _, _, _ => none
def TUGs (K : PySem.W.Frag) (io : Nat → Bool) (ql : Bool) (ps : List Tg) : TGs := fun vs σ H Q => ∃ Z O env ds, SI K Z O env σ H ∧ RFs K H (fun a => ¬ Z a ∧ a ∉ O) vs ds ∧
  match goT ps ds env with
  | some e => ∀ σ' H', PostS K Z O io σ H e σ' H' → (ql = true → Quiet H H') → Q σ' H'
  | none => False
def SGs (X : Cx) (io : Nat → Bool) (ql : Bool) (ps : List Tg) (es : List Expr) : Prop := PGs X es (TUGs X.K io ql ps)
theorem PG.imp {X : Cx} {e : Expr} {t t' : TG} (h : PG X e t) (i : ∀ v σ H Q, t' v σ H Q → t v σ H Q) : PG X e t' := ⟨fun pins s σ H v u Q I r q => h.run pins s σ H v u Q I r (i v σ H Q q)⟩
theorem PGs.imp {X : Cx} {e : List Expr} {t t' : TGs} (h : PGs X e t) (i : ∀ v σ H Q, t' v σ H Q → t v σ H Q) : PGs X e t' := ⟨fun pins s σ H v u Q I r q => h.run pins s σ H v u Q I r (i v σ H Q q)⟩
def gNm (i : Nat) : Tg := fun d e => if i < e.length then some (e.set i (some (.fz d))) else none
def gTp (ps : List Tg) : Tg := fun d e => match d with
  | .tuple ds => if ds.length = ps.length then goT ps ds e else none
  | _ => none
/-- .. of a list -/
def gLs (ps : List Tg) : Tg := fun d e => match d with
  | .list ds => if ds.length = ps.length then goT ps ds e else none
  | _ => none
theorem RFs.after {K : PySem.W.Frag} {Z : Addr → Prop} {O O2 : List Addr} {env : Ev} {σ : L2.St} {H H' : Hp} {vs : List V} {ds : List PyData} (r : RFs K H (fun a => ¬ Z a ∧ a ∉ O) vs ds) (I : SI K Z O env σ H) (st : Step O H O2 [] H') : RFs K H' (fun a => ¬ Z a ∧ a ∉ O2) vs ds :=
  r.step I.om (fun a g => g.2) (fun a o n e => (st.keep a o n e).1) fun a o g e => ⟨g.1, (st.keep a o g.2 e).2.1⟩
theorem RF.after {K : PySem.W.Frag} {Z : Addr → Prop} {O O2 : List Addr} {env : Ev} {σ : L2.St} {H H' : Hp} {vs : V} {ds : PyData} (r : RF K H (fun a => ¬ Z a ∧ a ∉ O) vs ds) (I : SI K Z O env σ H) (st : Step O H O2 [] H') : RF K H' (fun a => ¬ Z a ∧ a ∉ O2) vs ds :=
  r.step I.om (fun a g => g.2) (fun a o n e => (st.keep a o n e).1) fun a o g e => ⟨g.1, (st.keep a o g.2 e).2.1⟩
section
variable {X : Cx} {io : Nat → Bool} {ql : Bool} {p : Tg} {ps : List Tg} {e : Expr} {es : List Expr} {pos : Pos}
theorem sg_name {i : Nat} {x : Str} (hN : X.N.Nodup) (hi : X.N[i]? = some x) (hx : Loc X.env.scope x) (hio : io i = false := by rfl) (hf : X.fn x = true ∨ X.env.scope.names.lookup x = some .local := by first | exact .inl rfl | exact .inr rfl | assumption) : SG X io ql (gNm i) (.Name x pos) :=
  PG.imp (pg_name hN hi hx hf) fun v σ H Q ⟨Z, O, env, d, I, r, h⟩ => by
    unfold gNm at h
    split at h
    · rename_i e1 he
      split at he
      · rename_i hl
        cases he
        have I0 : SI X.K (Zp Z []) O env σ H := by rw [Zp_nil]; exact I
        obtain ⟨O2, I2, st2⟩ := I0.put (O := O) (H := H) hl (.fz (r.imp fun a g => ⟨g.1, g.2, fun z => nomatch z⟩)) List.Pairwise.nil (fun _ z => nomatch z) Step.refl
        exact h _ _ ⟨⟨O2, I2, st2⟩, Held.set hio⟩ fun _ _ _ e => e
      · cases he
    · exact h.elim
theorem sgs_nil : SGs X io ql [] [] := PGs.imp pgs_nil fun vs σ H Q ⟨Z, O, env, ds, I, r, h⟩ => by
  cases r with
  | nil =>
    refine ⟨rfl, ?_⟩
    exact h σ H ⟨⟨O, I, Step.refl⟩, Held.refl⟩ fun _ _ _ e => e
  | cons _ _ => exact h.elim
theorem sgs_cons (h1 : SG X io ql p e) (h2 : SGs X io ql ps es) (hs : (assignEach (e :: es) X.env).map (·.2) = assign e X.env :: (assignEach es X.env).map (·.2) := by rfl) : SGs X io ql (p :: ps) (e :: es) :=
  PGs.imp (pgs_cons h1 h2 hs) fun vs σ H Q ⟨Z, O, env, ds, I, r, h⟩ => by
    cases r with
    | nil => exact h.elim
    | cons r rr =>
      rename_i v vs d ds _
      refine ⟨_, _, rfl, Z, O, env, _, I, r, ?_⟩
      unfold goT at h
      cases e1 : p d env with
      | none => rw [e1] at h; exact h
      | some e2 =>
        rw [e1] at h
        intro σ' H' ps2 qu2
        obtain ⟨O2, I2, st2⟩ := ps2.ex
        refine ⟨Z, O2, e2, ds, I2, rr.after I st2, ?_⟩
        rw [Option.bind_some] at h
        cases e3 : goT ps ds e2 with
        | none => rw [e3] at h; exact h
        | some e4 =>
          rw [e3] at h
          exact fun σ3 H3 p3 qu3 => h σ3 H3 (p3.thenS st2 ps2.io) fun z a o e => qu3 z a o (qu2 z a o e)
theorem sg_tup {k n : Nat} (hc : X.calm = true) (h : SGs X io ql ps es) (hp : ps.length = n := by rfl) (hn : (assignEach es X.env).length = n := by rfl) (hst : (assignEach es X.env).findIdx? (·.1) = none := by rfl) : SG X io ql (gTp ps) (.Tuple es k pos) :=
  PG.imp (pg_tup hc h hn hst) fun v σ H Q ⟨Z, O, env, d, I, r, h⟩ => by
    unfold gTp at h
    cases r with
    | tup hq rs =>
      simp only [] at h
      split at h
      · rename_i e1 he
        split at he
        · rename_i hl
          exact ⟨_, _, rfl, hq.t, by rw [rs.length, hl, hp], Z, O, env, _, I, rs, by rw [he]; exact h⟩
        · cases he
      · exact h.elim
    | non => exact h.elim
    | bl _ => exact h.elim
    | int _ => exact h.elim
    | str _ => exact h.elim
    | lst _ _ _ => exact h.elim
theorem sg_lst {k n : Nat} (hc : X.calm = true) (h : SGs X io ql ps es) (hp : ps.length = n := by rfl) (hn : (assignEach es X.env).length = n := by rfl) (hst : (assignEach es X.env).findIdx? (·.1) = none := by rfl) : SG X io ql (gLs ps) (.Tuple es k pos) :=
  PG.imp (pg_lst hc h hn hst) fun v σ H Q ⟨Z, O, env, d, I, r, h⟩ => by
    unfold gLs at h
    cases r with
    | lst hq hg rs =>
      simp only [] at h
      split at h
      · rename_i e1 he
        split at he
        · rename_i hl
          exact ⟨_, _, rfl, .inl hq, by rw [rs.length, hl, hp], Z, O, env, _, I, rs, by rw [he]; exact h⟩
        · cases he
      · exact h.elim
    | non => exact h.elim
    | bl _ => exact h.elim
    | int _ => exact h.elim
    | str _ => exact h.elim
    | tup _ _ => exact h.elim
end
/-- target = value, the value frozen -/
def dAsg (p : Tg) (f : Ev → Res) : Ev → Out := fun env => match dFr f env with
  | .ok (.own (.fz d)) e _ => (match p d e with
    | some e' => .nx e'
    | none => .stuck)
  | .ok _ _ _ => .stuck
  | .exn c e => .exn c e
  | .stuck => .stuck
theorem ss_asg {X : Cx} {io : Nat → Bool} {p : Tg} {f : Ev → Res} {tg e : Expr} {pos : Pos} (he : SE X f e) (hg : SG X io false p tg) (hs : swapsWithSole [tg] e pos.line X.env = pure false := by rfl) (hw : swappedStores [tg] e X.env = pure none := by rfl)
    (h1 : (assignEach [tg] X.env).map (·.2) = [assign tg X.env] := by rfl) : SS X io (dAsg p f) (.Assign [tg] e pos) := fun W tk => PS.imp (ps_asg (se_fr he W tk) hg hs hw h1) fun D σ H ⟨Z, O, env, I, h⟩ => by
  refine ⟨Z, O, env, I, ?_⟩
  unfold dAsg at h
  split at h
  · rename_i d e1 q ef
    rw [ef]
    split at h
    · rename_i e2 ep
      intro v H' p1
      obtain ⟨O1, F, I1, r1, nd, nz, st⟩ := p1.own1
      obtain ⟨r1, rfl⟩ := r1.fzD
      rw [Zp_nil] at I1
      refine ⟨Z, O1, e1, d, I1, r1.imp fun a g => ⟨g.1, g.2.1⟩, ?_⟩
      rw [ep]
      exact fun σ' H2 p2 _ => h σ' H2 (p2.thenS st Held.refl)
    · exact h.elim
  · exact h.elim
  · rename_i c e1 ef
    rw [ef]
    exact EndS.exn h
  · exact h.elim

/-! ### what is walked -/
/-- the iterator gives ds, while I stands -/
structure Live (K : PySem.W.Frag) (J : It) (ds : List PyData) (I : (Addr → Prop) → Hp → Prop) : Prop where
  goes : ∀ i H G, i < ds.length → I G H → J.go i H
  stops : ∀ H G, I G H → J.stop ds.length H
  yields : ∀ i H x H' G d, ds[i]? = some d → I G H → J.yld i H x H' → (∀ a o, H a = some o → H' a = some o) ∧ RF K H' G x d
  keep : ∀ {H H' : Hp} {G G' : Addr → Prop} {O : List Addr}, I G H → OM H O → (∀ a, G a → a ∉ O) → (∀ a o, a ∉ O → H a = some o → H' a = some o) → (∀ a o, G a → H a = some o → G' a) → I G' H'
def chrs (z : Str) : List PyData := z.cps.toList.map fun c => .str ⟨#[c]⟩
def itemsOf : PyData → Option (List PyData)
  | .list ds => some ds
  | .tuple ds => some ds
  | .str z => if z.length ≤ SZ then some (chrs z) else none
  | _ => none
/-- a walk's reading: its den gives the row of items -/
def TUI (K : PySem.W.Frag) (mg : Str → Option Value) (W : WX) (src : Ev → Res) : TI := fun σ H R => ∃ Z O env, SI K Z O env σ H ∧
  match src env with
  | .ok (.own (.fz (.list ds))) env' q => ∀ J H' O' I, SI K Z O' env' σ H' → Step O H O' [] H' → (q ≠ .l → Quiet H H') → ds.length ≤ SZ → Live K J ds I → I (fun a => ¬ Z a ∧ a ∉ O') H' → R J H'
  | .exn c env' => ∀ cls d H', PostX K mg Z O σ H cls d H' c env' → W cls d σ H'
  | _ => False
def SIT (X : Cx) (tg : Expr) (src : Ev → Res) (e : Expr) : Prop := ∀ W, Takes X W → PI X tg e (TUI X.K X.mg W src)
theorem PI.imp {X : Cx} {tg e : Expr} {t t' : TI} (h : PI X tg e t) (i : ∀ σ H R, t' σ H R → t σ H R) : PI X tg e t' := ⟨fun pins s σ H R I q => h.run pins s σ H R I (i σ H R q)⟩
/-- no list and no tuple is longer than the line -/
theorem pe_sz {X : Cx} {e : Expr} {t : TE} (h : PE X e t) : PE X e fun σ H Q => t σ H fun v H' => (∀ a xs, v = .ref a → (SqL X.K H' a xs ∨ SqT X.K H' a xs) → xs.length ≤ SZ) → Q v H' := ⟨fun pins s σ H Q I q => by
  refine wpAny_mono (h.run pins s σ H _ I q) (fun u s' ⟨v, H', I', r, k⟩ => ⟨v, H', I', r, k fun a xs e z => ?_⟩) fun _ _ z => z
  have e1 : sizeLine = SZ := sizeLine_eq
  rcases z with z | z
  · obtain ⟨_, _, _, hz⟩ := I'.list z
    rw [← e1]; exact hz
  · obtain ⟨_, _, _, hz⟩ := I'.tuple z
    rw [← e1]; exact hz⟩
section
variable {K : PySem.W.Frag}
theorem live_list {a : Addr} {xs : List V} {ds : List PyData} (hl : xs.length = ds.length) : Live K (Itl K a) ds (fun G H => L2.Rd H a (.lst xs) ∧ G a ∧ RFs K H G xs ds) where
  goes := fun i H G hi ⟨h, _, _⟩ => ⟨xs, xs[i]'(by omega), .inl h, List.getElem?_eq_getElem _⟩
  stops := fun H G ⟨h, _, _⟩ => ⟨xs, .inl h, by omega⟩
  yields := fun i H x H' G d hd ⟨h, _, r⟩ y => by
    obtain ⟨e, y⟩ := y
    subst e
    obtain ⟨v, e1, r1⟩ := r.get hd
    have := y xs (.inl h)
    rw [e1] at this; cases this
    exact ⟨fun _ _ e => e, r1⟩
  keep := fun ⟨h, g, r⟩ om go fr gg => ⟨rd_keep h fun o e => fr _ o (go _ g) e, by obtain ⟨o, e⟩ := rd_some h; exact gg _ _ g e, r.step om go fr gg⟩
theorem live_tup {a : Addr} {xs : List V} {ds : List PyData} (hl : xs.length = ds.length) : Live K (Itt K a) ds (fun G H => SqT K H a xs ∧ RFs K H G xs ds) where
  goes := fun i H G hi ⟨h, _⟩ => ⟨xs, xs[i]'(by omega), h, List.getElem?_eq_getElem _⟩
  stops := fun H G ⟨h, _⟩ => ⟨xs, h, by omega⟩
  yields := fun i H x H' G d hd ⟨h, r⟩ y => by
    obtain ⟨e, y⟩ := y
    subst e
    obtain ⟨v, e1, r1⟩ := r.get hd
    have := y xs h
    rw [e1] at this; cases this
    exact ⟨fun _ _ e => e, r1⟩
  keep := fun ⟨h, r⟩ om go fr gg => ⟨sqt_keep h om fr, r.step om go fr gg⟩
theorem live_str {z : Str} : Live K (Its z) (chrs z) (fun _ _ => True) where
  goes := fun i H G hi _ => by
    have : i < z.cps.size := by simpa [chrs] using hi
    exact this
  stops := fun H G _ => by
    have : z.cps.size ≤ (chrs z).length := by simp [chrs]
    exact this
  yields := fun i H x H' G d hd _ y => by
    obtain ⟨e, c, hc, rfl⟩ := y
    subst e
    refine ⟨fun _ _ e => e, ?_⟩
    have : (chrs z)[i]? = some (.str ⟨#[c]⟩) := by
      unfold chrs
      rw [List.getElem?_map, Array.getElem?_toList, hc]; rfl
    rw [this] at hd; cases hd
    exact .str _
  keep := fun _ _ _ _ _ => trivial
def rngD (lo : Int) (n : Nat) : List PyData := (List.range n).map fun i => .int (lo + (i : Nat))
theorem live_range {lo : Int} {n : Nat} : Live K (Itr lo n) (rngD lo n) (fun _ _ => True) where
  goes := fun i H G hi _ => by
    have : i < n := by simpa [rngD] using hi
    exact this
  stops := fun H G _ => by
    have : n ≤ (rngD lo n).length := by simp [rngD]
    exact this
  yields := fun i H x H' G d hd _ y => by
    obtain ⟨e, rfl⟩ := y
    subst e
    refine ⟨fun _ _ e => e, ?_⟩
    unfold rngD at hd
    rw [List.getElem?_map] at hd
    obtain ⟨j, hj, rfl⟩ := Option.map_eq_some_iff.mp hd
    obtain ⟨_, e⟩ := List.getElem?_eq_some_iff.mp hj
    rw [List.getElem_range] at e
    subst e
    exact .int _
  keep := fun _ _ _ _ _ => trivial
end
/-- the items of a value, which is frozen -/
def dIt (f : Ev → Res) : Ev → Res := fun env => match dFr f env with
  | .ok (.own (.fz d)) e q => (match itemsOf d with
    | some ds => .ok (.own (.fz (.list ds))) e q
    | none => .stuck)
  | .ok _ _ _ => .stuck
  | .exn c e => .exn c e
  | .stuck => .stuck
theorem Post.fz1 {K : PySem.W.Frag} {Z : Addr → Prop} {O : List Addr} {env env1 : Ev} {σ : L2.St} {H H' : Hp} {v : V} {d : PyData} {q : Ql} (p : Post K Z O env σ H v H' (.own (.fz d)) env1 q) :
    ∃ O', SI K Z O' env1 σ H' ∧ RF K H' (fun a => ¬ Z a ∧ a ∉ O') v d ∧ Step O H O' [] H' ∧ (q ≠ .l → Quiet H H') := by
  obtain ⟨O', F, I, r, nd, nz, st, qu, _⟩ := p.ex
  cases r with
  | own h hr =>
    cases hr
    obtain ⟨h, rfl⟩ := h.fzD
    rw [List.append_nil, Zp_nil] at I
    exact ⟨O', I, h.imp fun a g => ⟨g.1, g.2.1⟩, st, qu⟩
theorem si_val {X : Cx} {tg e : Expr} {f : Ev → Res} (he : SE X f e) : SIT X tg (dIt f) e := fun W tk => ⟨fun pins s σ H R I0 ⟨Z, O, env, I, h⟩ => by
  have he' := pe_sz (se_fr he W tk)
  unfold dIt at h
  cases ef : dFr f env with
  | stuck => rw [ef] at h; exact h.elim
  | exn c e1 =>
    rw [ef] at h
    refine (pi_list (tg := tg) he').run pins s σ H R I0 ⟨Z, O, env, I, ?_⟩
    rw [ef]; exact h
  | ok x e1 q =>
    rw [ef] at h
    cases x with
    | vw m => exact h.elim
    | own m =>
      cases m with
      | lst _ => exact h.elim
      | tup _ => exact h.elim
      | dK _ _ => exact h.elim
      | dT _ _ => exact h.elim
      | fz d =>
        cases d with
        | list ds =>
          refine (pi_list (tg := tg) he').run pins s σ H R I0 ⟨Z, O, env, I, ?_⟩
          rw [ef]
          intro v H' p sz
          obtain ⟨O', I', r, st, qu⟩ := p.fz1
          cases r with
          | lst hq hg rs =>
            exact ⟨_, rfl, ⟨_, .inl hq⟩, h _ H' O' _ I' st qu (by rw [← rs.length]; exact sz _ _ rfl (.inl (.inl hq))) (live_list rs.length) ⟨hq, hg, rs⟩⟩
        | tuple ds =>
          refine (pi_tup (tg := tg) he').run pins s σ H R I0 ⟨Z, O, env, I, ?_⟩
          rw [ef]
          intro v H' p sz
          obtain ⟨O', I', r, st, qu⟩ := p.fz1
          cases r with
          | tup hq rs =>
            exact ⟨_, rfl, ⟨_, hq.t⟩, h _ H' O' _ I' st qu (by rw [← rs.length]; exact sz _ _ rfl (.inr hq.t)) (live_tup rs.length) ⟨hq.t, rs⟩⟩
        | str z =>
          refine (pi_str (tg := tg) he').run pins s σ H R I0 ⟨Z, O, env, I, ?_⟩
          rw [ef]
          by_cases hsz : z.length ≤ SZ
          · simp only [itemsOf, if_pos hsz] at h
            intro v H' p _
            obtain ⟨O', I', r, st, qu⟩ := p.fz1
            exact ⟨z, r.strI, h _ H' O' _ I' st qu (by simpa [chrs, Str.length] using hsz) live_str trivial⟩
          · simp only [itemsOf, if_neg hsz] at h
        | none => exact h.elim
        | bool _ => exact h.elim
        | int _ => exact h.elim
        | dict _ => exact h.elim⟩
end Q

set_option Elab.async false
set_option linter.all false
set_option maxRecDepth 100000
set_option maxHeartbeats 4000000
/-! for, while, list comprehensions. -/
namespace Q
open PySem PySem.Spec PyProof.Rows L2

/-- the body, for each item -/
def runF (p : Tg) (b : Ev → Out) : List PyData → Ev → Out
  | [], env => .nx env
  | d :: ds, env => match p d env with
    | none => .stuck
    | some e => match b e with
      | .nx e' => runF p b ds e'
      | .ct e' => runF p b ds e'
      | .brk e' => .nx e'
      | r => r
def dFor (p : Tg) (src : Ev → Res) (b : Ev → Out) : Ev → Out := fun env => match src env with
  | .ok (.own (.fz (.list ds))) e _ => runF p b ds e
  | .ok _ _ _ => .stuck
  | .exn c e => .exn c e
  | .stuck => .stuck
section
variable {X : Cx} {io : Nat → Bool} {a b : Ev → Out} {f g h src : Ev → Res} {p : Tg} {s : Stmt} {ss : List Stmt} {e iter tg : Expr} {pos : Pos}
theorem ss_for (hp : PassesOwn (model X.prog X.w) X.A X.env X.xe) (hc : X.calm = true) (hi : SIT X tg src iter) (hg : SG X io false p tg) (hb : SSs X io b ss)
    (hs : ∀ x, foldedSetIterable iter X.env x = pure x := by intro _; rfl) : SS X io (dFor p src b) (.For tg iter ss [] pos) := fun W tk => PS.imp (ps_for hp hc (hi W tk) hg (hb W tk) hs) fun D σ H ⟨Z, O, env, I, h⟩ => by
  refine ⟨Z, O, env, I, ?_⟩
  unfold dFor at h
  split at h
  · rename_i ds e1 q es
    rw [es]
    intro J H1 O1 S I1 st1 _ _ L s1
    have h1 : EndS X.K X.mg W io D Z O1 σ H1 (runF p b ds e1) := h.after st1 Held.refl
    have wk : L2.Walk J ds.length (fun H => ∃ G, S G H) (fun i H x H' => ∀ G d, ds[i]? = some d → S G H → (∀ a o, H a = some o → H' a = some o) ∧ RF X.K H' G x d) :=
      ⟨fun i H hi ⟨G, s⟩ => L.goes i H G hi s, fun H ⟨G, s⟩ => L.stops H G s, fun i H x H' hi ⟨G, s⟩ y G' d hd s' => L.yields i H x H' G' d hd s' y⟩
    refine for_it wk (fun i σ' H' => ∃ O' e', SI X.K Z O' e' σ' H' ∧ S (fun a => ¬ Z a ∧ a ∉ O') H' ∧ EndS X.K X.mg W io D Z O' σ' H' (runF p b (ds.drop i) e')) ⟨O1, e1, I1, s1, h1⟩ (fun i σ' H' _ ⟨O', e', _, s', _⟩ => ⟨_, s'⟩) ?_ ?_
    · rintro i x σ2 H2 H3 hi ⟨O2, e2, I2, s2, h2⟩ y
      obtain ⟨gr, r⟩ := y _ ds[i] (List.getElem?_eq_getElem hi) s2
      have I3 := I2.grow gr
      have st3 : Step O2 H2 O2 [] H3 := ⟨fun a o n e => ⟨gr a o e, n, fun z => nomatch z⟩⟩
      have s3 := L.keep s2 I2.om (fun a g => g.2) (fun a o _ e => gr a o e) (fun a _ g _ => g)
      rw [List.drop_eq_getElem_cons hi] at h2
      unfold runF at h2
      refine ⟨Z, O2, e2, ds[i], I3, r, ?_⟩
      cases ep : p ds[i] e2 with
      | none => rw [ep] at h2; exact h2.elim
      | some e4 =>
        simp only [ep] at h2
        intro σ4 H4 p4 _
        obtain ⟨O4, I4, st4⟩ := p4.ex
        refine ⟨Z, O4, e4, I4, ?_⟩
        have again : ∀ {e5 : Ev}, EndS X.K X.mg W io D Z O2 σ2 H2 (runF p b (ds.drop (i + 1)) e5) → ∀ σ' H', PostS X.K Z O4 io σ4 H4 e5 σ' H' → ∃ O' e', SI X.K Z O' e' σ' H' ∧ S (fun a => ¬ Z a ∧ a ∉ O') H' ∧ EndS X.K X.mg W io D Z O' σ' H' (runF p b (ds.drop (i + 1)) e') := fun {e5} h5 σ' H' p5 => by
          obtain ⟨O5, I5, st5⟩ := p5.ex
          have s4 := L.keep s3 I3.om (fun a g => g.2) (fun a o n e => (st4.keep a o n e).1) (fun a o g e => (⟨g.1, (st4.keep a o g.2 e).2.1⟩ : ¬ Z a ∧ a ∉ O4))
          have s5 := L.keep s4 I4.om (fun a g => g.2) (fun a o n e => (st5.keep a o n e).1) (fun a o g e => (⟨g.1, (st5.keep a o g.2 e).2.1⟩ : ¬ Z a ∧ a ∉ O5))
          exact ⟨O5, e5, I5, s5, h5.after ((st3.tr0 st4).tr0 st5) (p4.io.trans p5.io)⟩
        have fwd : ∀ {r : Out}, EndS X.K X.mg W io D Z O2 σ2 H2 r → EndS X.K X.mg W io D Z O4 σ4 H4 r := fun h => h.after (st3.tr0 st4) p4.io
        cases eb : b e4 with
        | nx e5 => rw [eb] at h2; exact again h2
        | ct e5 => rw [eb] at h2; exact again h2
        | brk e5 => rw [eb] at h2; exact fwd h2
        | ret m e5 => rw [eb] at h2; exact fwd h2
        | exn c e5 => rw [eb] at h2; exact fwd h2
        | stuck => rw [eb] at h2; exact h2
    · rintro σ' H' ⟨O', e', I', s', h'⟩
      rw [List.drop_length] at h'
      exact h' σ' H' ⟨⟨O', I', Step.refl⟩, Held.refl⟩
  · exact h.elim
  · rename_i c e1 es
    rw [es]
    exact EndS.exn h
  · exact h.elim

/-! ### while -/
def runW (f : Ev → Res) (b : Ev → Out) : Nat → Ev → Out
  | 0, _ => .stuck
  | n + 1, env => match f env with
    | .ok (.own (.fz (.bool t))) e _ => (match t with
      | true => (match b e with
        | .nx e' => runW f b n e'
        | .ct e' => runW f b n e'
        | .brk e' => .nx e'
        | r => r)
      | false => .nx e)
    | .ok _ _ _ => .stuck
    | .exn c e => .exn c e
    | .stuck => .stuck
open Classical in
noncomputable def dWhile (f : Ev → Res) (b : Ev → Out) : Ev → Out := fun env => if h : ∃ n, runW f b n env ≠ .stuck then runW f b h.choose env else .stuck
theorem runW_more : ∀ {n m : Nat} {env : Ev}, runW f b n env ≠ .stuck → n ≤ m → runW f b m env = runW f b n env
  | 0, _, _, h, _ => absurd rfl h
  | n + 1, 0, _, _, hl => absurd hl (by omega)
  | n + 1, m + 1, env, h, hl => by
    have ih : ∀ e', runW f b n e' ≠ .stuck → runW f b m e' = runW f b n e' := fun e' h' => runW_more h' (by omega)
    unfold runW at h ⊢
    split
    · rename_i t e q ef
      rw [ef] at h
      cases t with
      | false => rfl
      | true =>
        simp only [] at h ⊢
        cases eb : b e with
        | nx e' => rw [eb] at h; exact ih e' h
        | ct e' => rw [eb] at h; exact ih e' h
        | brk e' => rfl
        | ret m e' => rfl
        | exn c e' => rfl
        | stuck => rfl
    · rfl
    · rfl
    · rfl
theorem dWhile_of {n : Nat} {env : Ev} {r : Out} (h : runW f b n env = r) (hr : r ≠ .stuck) : dWhile f b env = r := by
  unfold dWhile
  have ex : ∃ n, runW f b n env ≠ .stuck := ⟨n, by rw [h]; exact hr⟩
  rw [dif_pos ex]
  have hc := ex.choose_spec
  rcases Nat.le_total n ex.choose with hl | hl
  · rw [runW_more (by rw [h]; exact hr) hl, h]
  · rw [← runW_more hc hl, h]
theorem ss_while {c : Expr} (hp : PassesOwn (model X.prog X.w) X.A X.env X.xe) (hc : ST X f c) (hb : SSs X io b ss) : SS X io (dWhile f b) (.While c ss [] pos) := fun W tk => PS.imp (ps_while hp (hc W tk) (hb W tk)) fun D σ H ⟨Z, O, env, I, h⟩ => by
  unfold dWhile at h
  split at h
  · rename_i ex
    refine ⟨fun m σ H => ∃ Z O env, SI X.K Z O env σ H ∧ EndS X.K X.mg W io D Z O σ H (runW f b m env), ⟨_, Z, O, env, I, h⟩, ?_⟩
    rintro m σ1 H1 ⟨Z1, O1, e1, I1, h1⟩
    refine ⟨Z1, O1, e1, I1, ?_⟩
    cases m with
    | zero => exact h1.elim
    | succ m =>
      unfold runW at h1
      split at h1
      · rename_i t e q ef
        rw [ef]
        refine ⟨t, rfl, fun H2 p2 => ?_⟩
        obtain ⟨O2, I2, st2⟩ := p2.to
        cases t with
        | false => exact iteF (h1 σ1 H2 ⟨⟨O2, I2, st2⟩, Held.refl⟩)
        | true =>
          simp only [] at h1
          refine iteT ⟨fun σ' H' => ∃ Z O env, SI X.K Z O env σ' H' ∧ EndS X.K X.mg W io D Z O σ' H' (runW f b m env), fun σ' H' w => ⟨m, by omega, w⟩, Z1, O2, e, I2, ?_⟩
          have fwd : ∀ {r : Out}, EndS X.K X.mg W io D Z1 O1 σ1 H1 r → EndS X.K X.mg W io D Z1 O2 σ1 H2 r := fun h => h.after st2 Held.refl
          cases eb : b e with
          | nx e' =>
            rw [eb] at h1
            exact fun σ' H' p' => by
              obtain ⟨O', I', st'⟩ := p'.ex
              exact ⟨Z1, O', e', I', (fwd h1).after st' p'.io⟩
          | ct e' =>
            rw [eb] at h1
            exact fun σ' H' p' => by
              obtain ⟨O', I', st'⟩ := p'.ex
              exact ⟨Z1, O', e', I', (fwd h1).after st' p'.io⟩
          | brk e' => rw [eb] at h1; exact fwd h1
          | ret m e' => rw [eb] at h1; exact fwd h1
          | exn c e' => rw [eb] at h1; exact fwd h1
          | stuck => rw [eb] at h1; exact h1
      · exact h1.elim
      · rename_i c e ef
        rw [ef]
        exact EndS.exn h1
      · exact h1.elim
  · exact h.elim
end

/-! ### ranges -/
def kRng : List Val → Option (Val × Bool)
  | [.own (.fz (.int j))] => if -(2 ^ 62) ≤ j ∧ j ≤ SZ then some (.own (.fz (.list (rngD 0 j.toNat))), false) else none
  | [.own (.fz (.int i)), .own (.fz (.int j))] => if -(2 ^ 62) ≤ i ∧ i < 2 ^ 62 ∧ -(2 ^ 62) ≤ j ∧ j < 2 ^ 62 ∧ j - i ≤ SZ then some (.own (.fz (.list (rngD i (j - i).toNat))), false) else none
  | _ => none
theorem tul_mono {K : PySem.W.Frag} {mg : Str → Option Value} {W : WX} {f : Ev → ResL} {σ : L2.St} {H : Hp} {Q Q' : List V → Hp → Prop} (h : TUL K mg W f σ H Q) (qq : ∀ v H', Q v H' → Q' v H') : TUL K mg W f σ H Q' := by
  obtain ⟨Z, O, env, I, h⟩ := h
  refine ⟨Z, O, env, I, ?_⟩
  cases e : f env with
  | stuck => rw [e] at h; exact h
  | exn c e1 => rw [e] at h; exact h
  | ok x e1 q => rw [e] at h; exact fun v H' p => qq v H' (h v H' p)
theorem tui_rng {K : PySem.W.Frag} {mg : Str → Option Value} {W : WX} {fs : List (Ev → Res)} {σ : L2.St} {H : Hp} {R : It → Hp → Prop} (h : TUI K mg W (dG kRng fs) σ H R) :
    TUL K mg W (evs fs) σ H fun vs H1 => vs.length = fs.length ∧ ((∃ j : Int, vs = [.int j] ∧ -(2 ^ 62) ≤ j ∧ j < 2 ^ 62 ∧ R (Itr 0 j.toNat) H1) ∨ (∃ i j : Int, vs = [.int i, .int j] ∧ (-(2 ^ 62) ≤ i ∧ i < 2 ^ 62 ∧ -(2 ^ 62) ≤ j ∧ j < 2 ^ 62) ∧ R (Itr i (j - i).toNat) H1)) := by
  obtain ⟨Z, O, env, I, h⟩ := h
  refine ⟨Z, O, env, I, ?_⟩
  unfold dG at h
  cases e : evs fs env with
  | stuck => rw [e] at h; exact h.elim
  | exn c e1 => rw [e] at h; exact h
  | ok xs e1 q =>
    rw [e] at h
    simp only [] at h
    intro vs H1 p
    obtain ⟨O1, I1, st1⟩ := p.to
    have hl := p.len
    refine ⟨hl.trans (evs_len e), ?_⟩
    have qu : q ≠ .l → Quiet H H1 := by obtain ⟨_, _, _, _, _, _, _, qu, _⟩ := p.ex; exact qu
    have qf : ∀ n, q.f n ≠ .l → Quiet H H1 := fun n z => qu fun e => z (by rw [e]; cases n <;> rfl)
    have sz : SZ = 16777216 := rfl
    cases ek : kRng xs with
    | none => simp only [ek] at h
    | some yn =>
      unfold kRng at ek
      split at ek
      · rename_i j
        split at ek
        · rename_i hj
          cases ek
          simp only [kRng, if_pos hj] at h
          match vs, hl, p with
          | [v], _, p =>
            obtain ⟨O', F, pa⟩ := p.ex
            have ev : v = .int j := pa.2.1.fz1.intI
            subst ev
            exact .inl ⟨j, rfl, hj.1, by omega, h _ H1 O1 _ I1 st1 (qf _) (by simp [rngD]; omega) live_range trivial⟩
        · cases ek
      · rename_i i j
        split at ek
        · rename_i hj
          cases ek
          simp only [kRng, if_pos hj] at h
          match vs, hl, p with
          | [v, w], _, p =>
            have ew : w = .int j := second_int p
            obtain ⟨O', F, pa⟩ := p.ex
            have ev : v = .int i := pa.2.1.fz1.intI
            subst ev; subst ew
            exact .inr ⟨i, j, rfl, ⟨hj.1, hj.2.1, hj.2.2.1, hj.2.2.2.1⟩, h _ H1 O1 _ I1 st1 (qf _) (by simp [rngD]; omega) live_range trivial⟩
        · cases ek
      · cases ek
section
variable {X : Cx} {tg a b : Expr} {f g : Ev → Res} {p pos : Pos}
theorem si_rng1 (hg : Gl X "range") (hm : X.mg "range" = none) (ha : SE X f a) (hs : starEach [a] X.env = [(false, eval a X.env)] := by rfl) : SIT X tg (dG kRng [f]) (.Call (.Name "range" p) [a] [] pos) := fun W tk =>
  PI.imp (pi_range1 hg hm (sa_cons ha sa_nil hs W tk) hs) fun σ H R h => tul_mono (tui_rng h) fun vs H1 ⟨hl, q⟩ => by
    rcases q with ⟨j, rfl, h1, h2, r⟩ | ⟨i, j, rfl, _⟩
    · exact ⟨j, rfl, h1, h2, r⟩
    · simp at hl
theorem si_rng2 (hg : Gl X "range") (hm : X.mg "range" = none) (ha : SE X f a) (hb : SE X g b) (hs : starEach [a, b] X.env = [(false, eval a X.env), (false, eval b X.env)] := by rfl) (hs2 : starEach [b] X.env = [(false, eval b X.env)] := by rfl) : SIT X tg (dG kRng [f, g]) (.Call (.Name "range" p) [a, b] [] pos) := fun W tk =>
  PI.imp (pi_range2 hg hm (sa_cons ha (sa_cons hb sa_nil hs2) (by rw [hs, hs2]) W tk) hs hs2) fun σ H R h => tul_mono (tui_rng h) fun vs H1 ⟨hl, q⟩ => by
    rcases q with ⟨j, rfl, _⟩ | ⟨i, j, rfl, h1, r⟩
    · simp at hl
    · exact ⟨i, j, rfl, h1, r⟩
end
end Q

set_option Elab.async false
set_option linter.all false
set_option maxRecDepth 100000
set_option maxHeartbeats 4000000
/-! List comprehensions. -/
namespace Q
open PySem PySem.Spec PyProof.Rows L2

def wipeE (e : Ev) : List Nat → Ev
  | [] => e
  | v :: vs => (wipeE e vs).set v none
def emptyAt (e : Ev) (i : Nat) : Bool := match e[i]? with
  | some (some _) => false
  | _ => true
def runC (p : Tg) (t f : Ev → Res) (vs : List Nat) : List PyData → Ev → Option (List M × Ev × Ql)
  | [], env => some ([], env, .p)
  | d :: ds, env => match p d env with
    | none => none
    | some e1 => match t e1 with
      | .ok (.own (.fz (.bool b))) e2 q1 => (match b with
        | true => (match f e2 with
          | .ok (.own m) e3 q2 => (runC p t f vs ds (wipeE e3 vs)).map fun r => (m :: r.1, r.2.1, (q1.j q2).j r.2.2)
          | _ => none)
        | false => (runC p t f vs ds (wipeE e2 vs)).map fun r => (r.1, r.2.1, q1.j r.2.2))
      | _ => none
/-- nothing or frozen data -/
def calmAt (e : Ev) (i : Nat) : Bool := match e[i]? with
  | some (some (.fz _)) => true
  | some (some _) => false
  | _ => true
def atE (e : Ev) (i : Nat) : Option M := match e[i]? with
  | some x => x
  | none => none
/-- what the names held ahead of the block -/
def restE (e' e : Ev) : List Nat → Ev
  | [] => e'
  | v :: vs => (restE e' e vs).set v (atE e v)
def dLc (p : Tg) (src t f : Ev → Res) (vs : List Nat) : Ev → Res := fun env => match src env with
  | .ok (.own (.fz (.list ds))) e q => if vs.all (calmAt e) = true then (match runC p t f vs ds (wipeE e vs) with
    | some r => .ok (.own (.lst r.1)) (restE r.2.1 e vs) (q.j r.2.2).n
    | none => .stuck) else .stuck
  | .ok _ _ _ => .stuck
  | .exn c e => .exn c e
  | .stuck => .stuck
section
variable {K : PySem.W.Frag} {mg : Str → Option Value} {H H' H0 H1 H2 : Hp} {G G' Gv Gv' : Addr → Prop} {O O' O0 O1 O2 F F' F1 F2 : List Addr} {Z : Addr → Prop} {env env1 env2 : Ev} {σ σ1 σ' : L2.St} {vs : List Nat}
theorem emptyAt_ne {e : Ev} {i : Nat} (h : emptyAt e i = true) (m : M) : e[i]? ≠ some (some m) := fun z => by
  unfold emptyAt at h
  rw [z] at h; cases h
theorem emptyAt_of {e : Ev} {i : Nat} (h : ∀ m, e[i]? ≠ some (some m)) : emptyAt e i = true := by
  unfold emptyAt
  split
  · rename_i m z; exact absurd z (h m)
  · rfl
theorem Slots.void : ∀ {env : Ev} {σ : L2.St} {Fs : List (List Addr)} {i : Nat} {x : Option V}, Slots K H G env σ Fs → (∀ m, env[i]? ≠ some (some m)) → Slots K H G env (σ.set i x) Fs
  | _, _, _, _, _, .nil, _ => .nil
  | _, _, _, 0, _, .non r, _ => .non r
  | _, _, _, 0, _, .som (m := m) h r, n => absurd rfl (n m)
  | _, _, _, i + 1, _, .non r, n => .non (Slots.void r fun m => by simpa using n m)
  | _, _, _, i + 1, _, .som h r, n => .som h (Slots.void r fun m => by simpa using n m)
theorem Slots.unvoid : ∀ {env : Ev} {σ : L2.St} {Fs : List (List Addr)} {i : Nat} {x : Option V}, Slots K H G env (σ.set i x) Fs → (∀ m, env[i]? ≠ some (some m)) → Slots K H G env σ Fs
  | env, [], _, _, _, r, _ => by simpa using r
  | _, y :: σ, _, 0, _, .non r, _ => .non r
  | _, y :: σ, _, 0, _, .som (m := m) h r, n => absurd rfl (n m)
  | _, y :: σ, _, i + 1, _, .non r, n => .non (Slots.unvoid (i := i) r fun m => by simpa using n m)
  | _, some v :: σ, _, i + 1, _, .som h r, n => .som h (Slots.unvoid (i := i) r fun m => by simpa using n m)
theorem SI.void (I : SI K Z O env σ H) : ∀ {vs : List Nat}, vs.all (emptyAt env) = true → SI K Z O env (wipe σ vs) H
  | [], _ => I
  | v :: vs, h => by
    rw [List.all_cons, Bool.and_eq_true] at h
    have I2 := SI.void I h.2
    obtain ⟨Fs, s, e⟩ := I2.sl
    exact ⟨⟨Fs, s.void (emptyAt_ne h.1), e⟩, I2.nd, I2.nz, I2.zt⟩
theorem SI.unvoid : ∀ {vs : List Nat}, SI K Z O env (wipe σ vs) H → vs.all (emptyAt env) = true → SI K Z O env σ H
  | [], I, _ => I
  | v :: vs, I, h => by
    rw [List.all_cons, Bool.and_eq_true] at h
    obtain ⟨Fs, s, e⟩ := I.sl
    exact SI.unvoid ⟨⟨Fs, s.unvoid (emptyAt_ne h.1), e⟩, I.nd, I.nz, I.zt⟩ h.2
theorem Slots.kill : ∀ {env : Ev} {σ : L2.St} {Fs : List (List Addr)} {i : Nat}, Slots K H G env σ Fs → Slots K H G (env.set i none) (σ.set i none) (Fs.set i [])
  | _, _, _, _, .nil => .nil
  | _, _, _, 0, .non r => .non r
  | _, _, _, 0, .som _ r => .non r
  | _, _, _, i + 1, .non r => .non (Slots.kill r)
  | _, _, _, i + 1, .som h' r => .som h' (Slots.kill r)
theorem flat_nil_set : ∀ {Fs : List (List Addr)} {i : Nat}, Fs.flatten.Nodup → (Fs.set i []).flatten.Nodup
  | [], _, _ => by simp
  | x :: r, 0, nd => by
    rw [List.flatten_cons] at nd
    simpa using (List.nodup_append.mp nd).2.1
  | x :: r, i + 1, nd => by
    rw [List.flatten_cons] at nd
    obtain ⟨n1, n2, n3⟩ := List.nodup_append.mp nd
    rw [List.set_cons_succ, List.flatten_cons]
    exact List.nodup_append.mpr ⟨n1, flat_nil_set n2, fun a ha b hb e => n3 a ha b ((mem_flat_set hb).elim id fun z => nomatch z) e⟩
theorem SI.wipe (I : SI K Z O env σ H) : ∀ (vs : List Nat), ∃ O', SI K Z O' (wipeE env vs) (L2.wipe σ vs) H ∧ ∀ a ∈ O', a ∈ O
  | [] => ⟨O, I, fun _ z => z⟩
  | v :: vs => by
    obtain ⟨O1, I1, s1⟩ := SI.wipe I vs
    obtain ⟨Fs, s, rfl⟩ := I1.sl
    have sub : ∀ a ∈ (Fs.set v ([] : List Addr)).flatten, a ∈ Fs.flatten := fun a ha => (mem_flat_set ha).elim id fun z => nomatch z
    exact ⟨_, ⟨⟨_, (s.imp fun a g => ⟨g.1, fun z => g.2 (sub a z)⟩).kill, rfl⟩, flat_nil_set I1.nd, fun a ha => I1.nz a (sub a ha), I1.zt⟩, fun a ha => s1 a (sub a ha)⟩
theorem wipeE_empty (e : Ev) : ∀ (vs : List Nat), vs.all (emptyAt (wipeE e vs)) = true := by
  intro vs
  have key : ∀ (vs : List Nat) (i : Nat), i ∈ vs → ∀ m, (wipeE e vs)[i]? ≠ some (some m) := by
    intro vs
    induction vs with
    | nil => intro i h; cases h
    | cons v vs ih =>
      intro i h m z
      unfold wipeE at z
      by_cases hv : v = i
      · subst hv
        by_cases hl : v < (wipeE e vs).length
        · rw [List.getElem?_set_self hl] at z; cases z
        · rw [List.getElem?_eq_none (by simpa using hl)] at z; cases z
      · rw [List.getElem?_set_ne hv] at z
        rcases List.mem_cons.mp h with h | h
        · exact hv h.symm
        · exact ih i h m z
  rw [List.all_eq_true]
  exact fun i hi => emptyAt_of (key vs i hi)
/-- what stands in the calm slots -/
def Stash (K : PySem.W.Frag) (σ : L2.St) (e : Ev) (vs : List Nat) (G : Addr → Prop) (H : Hp) : Prop := ∀ v ∈ vs, ∀ d, atE e v = some (.fz d) → ∃ x, σ[v]? = some (some x) ∧ RF K H G x d
theorem SI.rest {e : Ev} : ∀ {vs : List Nat}, SI K Z O env (L2.wipe σ vs) H → vs.all (emptyAt env) = true → vs.all (calmAt e) = true → Stash K σ e vs (fun a => ¬ Z a ∧ a ∉ O) H → ∃ O', SI K Z O' (restE env e vs) σ H ∧ ∀ a ∈ O', a ∈ O
  | [], I, _, _, _ => ⟨O, I, fun _ z => z⟩
  | v :: vs, I, h, hc, st => by
    rw [List.all_cons, Bool.and_eq_true] at h hc
    have I0 : SI K Z O env (L2.wipe σ vs) H := by
      obtain ⟨Fs, s, e⟩ := I.sl
      exact ⟨⟨Fs, s.unvoid (emptyAt_ne h.1), e⟩, I.nd, I.nz, I.zt⟩
    obtain ⟨O1, I1, s1⟩ := SI.rest I0 h.2 hc.2 fun w hw => st w (List.mem_cons_of_mem _ hw)
    obtain ⟨Fs, sl, rfl⟩ := I1.sl
    have sub : ∀ a ∈ (Fs.set v ([] : List Addr)).flatten, a ∈ Fs.flatten := fun a ha => (mem_flat_set ha).elim id fun z => nomatch z
    refine ⟨(Fs.set v []).flatten, ?_, fun a ha => s1 a (sub a ha)⟩
    unfold restE
    cases ev : atE e v with
    | none => exact ⟨⟨_, (sl.imp fun a g => ⟨g.1, fun z => g.2 (sub a z)⟩).drop, rfl⟩, flat_nil_set I1.nd, fun a ha => I1.nz a (sub a ha), I1.zt⟩
    | some m =>
      cases m with
      | fz d =>
        obtain ⟨x, hx, rf⟩ := st v List.mem_cons_self d ev
        exact ⟨⟨_, (sl.imp fun a g => ⟨g.1, fun z => g.2 (sub a z)⟩).put' (.fz (rf.imp fun a g => ⟨g.1, fun z => g.2 (s1 a (sub a z))⟩)) hx, rfl⟩, flat_nil_set I1.nd, fun a ha => I1.nz a (sub a ha), I1.zt⟩
      | lst _ => have := hc.1; unfold atE at ev; unfold calmAt at this; split at ev <;> simp_all
      | tup _ => have := hc.1; unfold atE at ev; unfold calmAt at this; split at ev <;> simp_all
      | dK _ _ => have := hc.1; unfold atE at ev; unfold calmAt at this; split at ev <;> simp_all
      | dT _ _ => have := hc.1; unfold atE at ev; unfold calmAt at this; split at ev <;> simp_all
theorem SI.stash {e : Ev} {vs : List Nat} (I : SI K Z O e σ H) : Stash K σ e vs (fun a => ¬ Z a ∧ a ∉ O) H := fun v hv d h => by
  unfold atE at h
  split at h
  · rename_i x ex
    subst h
    obtain ⟨x, F, h1, h2, _⟩ := I.get ex
    exact ⟨x, h1, h2.fzD.1⟩
  · cases h
theorem Stash.keep {e : Ev} {vs : List Nat} {G' : Addr → Prop} (s : Stash K σ e vs G H) (om : OM H O) (go : ∀ a, G a → a ∉ O) (fr : ∀ a o, a ∉ O → H a = some o → H' a = some o) (gg : ∀ a o, G a → H a = some o → G' a) : Stash K σ e vs G' H' := fun v hv d h => by
  obtain ⟨x, h1, h2⟩ := s v hv d h
  exact ⟨x, h1, h2.step om go fr gg⟩
theorem Live.stash {J : It} {ds : List PyData} {S : (Addr → Prop) → Hp → Prop} {e : Ev} (L : Live K J ds S) : Live K J ds (fun G H => S G H ∧ Stash K σ e vs G H) :=
  ⟨fun i H G hi s => L.goes i H G hi s.1, fun H G s => L.stops H G s.1, fun i H x H' G d hd s y => L.yields i H x H' G d hd s.1 y, fun s om go fr gg => ⟨L.keep s.1 om go fr gg, s.2.keep om go fr gg⟩⟩
theorem wipe_held (h : Held (fun i => !vs.contains i) (L2.wipe σ vs) σ') : L2.wipe σ' vs = L2.wipe σ vs := by
  have out : ∀ {τ : L2.St} {i : Nat} {ws : List Nat}, i ∉ ws → (L2.wipe τ ws)[i]? = τ[i]? := by
    intro τ i ws
    induction ws with
    | nil => intro _; rfl
    | cons w ws ih =>
      intro n
      simp only [List.mem_cons, not_or] at n
      unfold L2.wipe
      rw [List.getElem?_set_ne (fun z => n.1 z.symm), ih n.2]
  have inn : ∀ {τ : L2.St} {i : Nat} {ws : List Nat}, i ∈ ws → i < τ.length → (L2.wipe τ ws)[i]? = some none := by
    intro τ i ws
    induction ws with
    | nil => intro h; cases h
    | cons w ws ih =>
      intro h hl
      unfold L2.wipe
      by_cases hw : w = i
      · subst hw
        rw [List.getElem?_set_self (by rw [wipe_length]; exact hl)]
      · rw [List.getElem?_set_ne hw]
        rcases List.mem_cons.mp h with h | h
        · exact absurd h.symm hw
        · exact ih h hl
  have hl : σ'.length = σ.length := by rw [h.1, wipe_length]
  apply List.ext_getElem?
  intro i
  by_cases hi : i ∈ vs
  · by_cases hlt : i < σ.length
    · rw [inn hi (by omega), inn hi hlt]
    · rw [List.getElem?_eq_none (by rw [wipe_length]; omega), List.getElem?_eq_none (by rw [wipe_length]; omega)]
  · rw [out hi, h.2 i (by simpa using hi)]
/-- the state ahead of a turn -/
structure LcS (K : PySem.W.Frag) (Z : Addr → Prop) (O0 : List Addr) (H0 : Hp) (D : Addr) (S : (Addr → Prop) → Hp → Prop) (σw : L2.St) (vs : List Nat) (i : Nat) (H : Hp) (e : Ev) (ms : List M) (q : Ql) : Prop where
  ex : ∃ O acc F, SI K (Zp Z (D :: F)) O e σw H ∧ H D = some (.lst acc) ∧ RMs K H (fun a => ¬ Z a ∧ a ∉ O ∧ a ∉ D :: F) acc ms F ∧ F.Nodup ∧ D ∉ F ∧ (∀ a ∈ D :: F, ¬ Z a) ∧ Step O0 H0 O (D :: F) H ∧ S (fun a => ¬ Zp Z (D :: F) a ∧ a ∉ O) H ∧ acc.length ≤ i
  em : vs.all (emptyAt e) = true
  qu : q ≠ .l → Quiet H0 H ∧ H0 D = none
theorem Zp_assoc {A B : List Addr} {D : Addr} : ∀ a, Zp Z (D :: (A ++ B)) a → Zp (Zp Z (D :: A)) B a := fun a z => by
  rcases z with z | z
  · exact .inl (.inl z)
  · rcases List.mem_cons.mp z with z | z
    · exact .inl (.inr (by rw [z]; exact List.mem_cons_self))
    · rcases List.mem_append.mp z with z | z
      · exact .inl (.inr (List.mem_cons_of_mem _ z))
      · exact .inr z
theorem RMs.two : ∀ {vs : List V} {ms : List M} {F : List Addr}, RMs K H G vs ms F → vs.length = ms.length := RMs.length
/-- one more item at the end of the new list -/
theorem Lc.add {D : Addr} {acc : List V} {ms : List M} {m : M} {v : V} {e3 : Ev} {H3 H4 : Hp} {O3 : List Addr} {q2 : Ql} (I : SI K (Zp Z (D :: F)) O env σ1 H) (hD : H D = some (.lst acc)) (rm : RMs K H (fun a => ¬ Z a ∧ a ∉ O ∧ a ∉ D :: F) acc ms F) (nd : F.Nodup) (nD : D ∉ F) (nz : ∀ a ∈ D :: F, ¬ Z a) (st : Step O0 H0 O (D :: F) H)
    (st3 : Step O H O3 [] H3) (p : Post K (Zp Z (D :: F)) O3 env1 σ H3 v H4 (.own m) e3 q2) :
    H4 D = some (.lst acc) ∧ ∃ O5 F2, SI K (Zp Z (D :: (F ++ F2))) O5 (wipeE e3 vs) (L2.wipe σ vs) (upd H4 D (.lst (acc ++ [v]))) ∧ RMs K (upd H4 D (.lst (acc ++ [v]))) (fun a => ¬ Z a ∧ a ∉ O5 ∧ a ∉ D :: (F ++ F2)) (acc ++ [v]) (ms ++ [m]) (F ++ F2) ∧ (F ++ F2).Nodup ∧ D ∉ F ++ F2 ∧ (∀ a ∈ D :: (F ++ F2), ¬ Z a) ∧
      Step O0 H0 O5 (D :: (F ++ F2)) (upd H4 D (.lst (acc ++ [v]))) ∧ (∀ a o, a ∉ O → a ≠ D → H a = some o → upd H4 D (.lst (acc ++ [v])) a = some o ∧ a ∉ O5 ∧ a ∉ F2) := by
  obtain ⟨O4, F2, I4, rv, nd2, nz2, st4⟩ := p.own1
  have st' : Step O H O4 F2 H4 := st3.tr0 st4
  have DO : D ∉ O := fun z => I.nz D z (.inr List.mem_cons_self)
  obtain ⟨hD4, DO4, DF2⟩ := st'.keep D _ DO hD
  refine ⟨hD4, ?_⟩
  obtain ⟨O5, I5, sub⟩ := I4.wipe vs
  have DO5 : D ∉ O5 := fun z => DO4 (sub D z)
  -- the write at D
  have fr : ∀ a o, a ∉ [D] → H4 a = some o → upd H4 D (.lst (acc ++ [v])) a = some o := fun a o n e => by
    rw [upd_ne (fun z => n (by rw [z]; exact List.mem_cons_self))]; exact e
  have om : OM H4 [D] := fun b hb => by
    rw [List.mem_singleton.mp hb, hD4]
    exact ⟨fun xs z => (by cases z), fun o u z => (by cases z)⟩
  have I6 : SI K (Zp Z (D :: (F ++ F2))) O5 (wipeE e3 vs) (L2.wipe σ vs) (upd H4 D (.lst (acc ++ [v]))) := by
    obtain ⟨Fs, s, e5⟩ := I5.sl
    refine ⟨⟨Fs, Slots.stepL.Slots.all (O := [D]) (G' := fun a => ¬ Zp Z (D :: (F ++ F2)) a ∧ a ∉ O5) s om (fun b g hb => ?_) (fun j Fj ej b hb hc => ?_) fr (fun b g => ⟨fun z => g.1 (Zp_assoc b z), g.2⟩), e5⟩, I5.nd, fun a ha z => I5.nz a ha (Zp_assoc a z), fun a z => ?_⟩
    · rw [List.mem_singleton.mp hb] at g
      exact g.1 (.inl (.inr List.mem_cons_self))
    · rw [List.mem_singleton.mp hc] at hb
      exact DO5 (by rw [← e5]; exact mem_flat_at ej hb)
    · by_cases q : a = D
      · exact ⟨_, by rw [q]; exact upd_same⟩
      · obtain ⟨o, e⟩ := I5.zt a (Zp_assoc a z)
        exact ⟨o, by rw [upd_ne q]; exact e⟩
  have FO : ∀ a ∈ F, a ∉ O := fun a ha z => I.nz a z (.inr (List.mem_cons_of_mem _ ha))
  have disj : ∀ a ∈ F, a ∉ F2 := fun a ha z => nz2 a z (.inr (List.mem_cons_of_mem _ ha))
  have nDD : D ∉ F ++ F2 := fun z => (List.mem_append.mp z).elim nD DF2
  refine ⟨O5, F2, I6, ?_, List.nodup_append.mpr ⟨nd, nd2, fun a ha b hb e => disj a ha (e ▸ hb)⟩, nDD, fun a ha => ?_, ⟨fun a o n e => ?_⟩, fun a o n ne e => ?_⟩
  · have r1 : RMs K H4 (fun a => ¬ Z a ∧ a ∉ O5 ∧ a ∉ D :: (F ++ F2)) acc ms F := rm.step I.om (fun a g => g.2.1) FO (fun a o n e => (st'.keep a o n e).1) fun a o g e => ⟨g.1, fun z => (st'.keep a o g.2.1 e).2.1 (sub a z), fun z => by
      rcases List.mem_cons.mp z with z | z
      · exact g.2.2 (by rw [z]; exact List.mem_cons_self)
      · rcases List.mem_append.mp z with z | z
        · exact g.2.2 (List.mem_cons_of_mem _ z)
        · exact (st'.keep a o g.2.1 e).2.2 z⟩
    have r2 : RM K H4 (fun a => ¬ Z a ∧ a ∉ O5 ∧ a ∉ D :: (F ++ F2)) v m F2 := rv.imp fun a g => ⟨fun z => g.1 (.inl z), fun z => g.2.1 (sub a z), fun z => by
      rcases List.mem_cons.mp z with z | z
      · exact g.1 (.inr (by rw [z]; exact List.mem_cons_self))
      · rcases List.mem_append.mp z with z | z
        · exact g.1 (.inr (List.mem_cons_of_mem _ z))
        · exact g.2.2 z⟩
    refine (r1.app r2).step om (fun a g hb => g.2.2 (by rw [List.mem_singleton.mp hb]; exact List.mem_cons_self)) (fun a ha hb => ?_) fr fun a _ g _ => g
    rw [List.mem_singleton.mp hb] at ha
    exact nDD ha
  · rcases List.mem_cons.mp ha with z | z
    · exact nz a (by rw [z]; exact List.mem_cons_self)
    · rcases List.mem_append.mp z with z | z
      · exact nz a (List.mem_cons_of_mem _ z)
      · exact fun q => nz2 a z (.inl q)
  · obtain ⟨e1, n1, f1⟩ := st.keep a o n e
    obtain ⟨e2, n2, f2⟩ := st'.keep a o n1 e1
    have ne : a ≠ D := fun z => f1 (by rw [z]; exact List.mem_cons_self)
    refine ⟨by rw [upd_ne ne]; exact e2, fun z => n2 (sub a z), fun z => ?_⟩
    rcases List.mem_cons.mp z with z | z
    · exact ne z
    · rcases List.mem_append.mp z with z | z
      · exact f1 (List.mem_cons_of_mem _ z)
      · exact f2 z
  · obtain ⟨e2, n2, f2⟩ := st'.keep a o n e
    exact ⟨by rw [upd_ne ne]; exact e2, fun z => n2 (sub a z), f2⟩

theorem ql_assoc (a b c : Ql) : (a.j b).j c = a.j (b.j c) := by cases a <;> cases b <;> cases c <;> rfl
/-- nothing is added -/
theorem Lc.same {D : Addr} {acc : List V} {ms : List M} {e3 : Ev} {H3 : Hp} {O3 : List Addr} (I : SI K (Zp Z (D :: F)) O env σ1 H) (hD : H D = some (.lst acc)) (rm : RMs K H (fun a => ¬ Z a ∧ a ∉ O ∧ a ∉ D :: F) acc ms F) (nD : D ∉ F) (nz : ∀ a ∈ D :: F, ¬ Z a) (st : Step O0 H0 O (D :: F) H)
    (st3 : Step O H O3 [] H3) (I3 : SI K (Zp Z (D :: F)) O3 e3 σ H3) :
    H3 D = some (.lst acc) ∧ ∃ O5, SI K (Zp Z (D :: F)) O5 (wipeE e3 vs) (L2.wipe σ vs) H3 ∧ RMs K H3 (fun a => ¬ Z a ∧ a ∉ O5 ∧ a ∉ D :: F) acc ms F ∧ Step O0 H0 O5 (D :: F) H3 ∧ (∀ a o, a ∉ O → H a = some o → H3 a = some o ∧ a ∉ O5) := by
  have DO : D ∉ O := fun z => I.nz D z (.inr List.mem_cons_self)
  obtain ⟨hD3, DO3, _⟩ := st3.keep D _ DO hD
  obtain ⟨O5, I5, sub⟩ := I3.wipe vs
  have FO : ∀ a ∈ F, a ∉ O := fun a ha z => I.nz a z (.inr (List.mem_cons_of_mem _ ha))
  refine ⟨hD3, O5, I5, rm.step I.om (fun a g => g.2.1) FO (fun a o n e => (st3.keep a o n e).1) fun a o g e => ⟨g.1, fun z => (st3.keep a o g.2.1 e).2.1 (sub a z), g.2.2⟩, ⟨fun a o n e => ?_⟩, fun a o n e => ⟨(st3.keep a o n e).1, fun z => (st3.keep a o n e).2.1 (sub a z)⟩⟩
  obtain ⟨e1, n1, f1⟩ := st.keep a o n e
  obtain ⟨e2, n2, _⟩ := st3.keep a o n1 e1
  exact ⟨e2, fun z => n2 (sub a z), f1⟩
theorem ql_j_l {a b : Ql} (h : a.j b ≠ .l) : a ≠ .l ∧ b ≠ .l := qj_l h
theorem tu_lc {W : WX} {p : Tg} {src t f : Ev → Res} {Q : VK} (h : TU K mg W (dLc p src t f vs) σ H Q) :
    tLc (TUI K mg W src) (TUG K (fun i => !vs.contains i) true p) (TUT K mg (fun _ _ _ _ => False) t) (TU K mg (fun _ _ _ _ => False) f) vs σ H Q := by
  obtain ⟨Z, O, env, I, h⟩ := h
  refine ⟨Z, O, env, I, ?_⟩
  unfold dLc at h
  cases es : src env with
  | stuck => rw [es] at h; exact h.elim
  | exn c e1 => rw [es] at h; exact h
  | ok x e1 q =>
    rw [es] at h
    cases x with
    | vw m => exact h.elim
    | own m =>
      cases m with
      | lst _ => exact h.elim
      | tup _ => exact h.elim
      | dK _ _ => exact h.elim
      | dT _ _ => exact h.elim
      | fz d =>
        cases d with
        | none => exact h.elim
        | bool _ => exact h.elim
        | int _ => exact h.elim
        | dict _ => exact h.elim
        | str _ => exact h.elim
        | tuple _ => exact h.elim
        | list ds =>
          by_cases em : vs.all (calmAt e1) = true
          · simp only [if_pos em] at h
            intro J H1 O1' S0 I1' st1' qu1 hlen L0 s0 D hD
            obtain ⟨O1, I1, subO⟩ := I1'.wipe vs
            have st1 : Step O H O1 [] H1 := ⟨fun a o n e => let ⟨e2, n2, _⟩ := st1'.keep a o n e; ⟨e2, fun z => n2 (subO a z), fun z => nomatch z⟩⟩
            obtain ⟨S, hS⟩ : ∃ S, S = fun (G : Addr → Prop) (H : Hp) => S0 G H ∧ Stash K σ e1 vs G H := ⟨_, rfl⟩
            have L : Live K J ds S := by rw [hS]; exact L0.stash
            have s1 : S (fun a => ¬ Z a ∧ a ∉ O1) H1 := by
              rw [hS]
              exact (L0.stash (σ := σ) (e := e1) (vs := vs)).keep (G := fun a => ¬ Z a ∧ a ∉ O1') ⟨s0, I1'.stash (vs := vs)⟩ (O := []) (fun _ z => nomatch z) (fun _ _ z => nomatch z) (fun a o _ e => e) fun a o g _ => ⟨g.1, fun z => g.2 (subO a z)⟩
            cases er : runC p t f vs ds (wipeE e1 vs) with
            | none => simp only [er] at h
            | some r =>
              simp only [er] at h
              have wk : L2.Walk J ds.length (fun H => ∃ G, S G H) (fun i H x H' => ∀ G d, ds[i]? = some d → S G H → (∀ a o, H a = some o → H' a = some o) ∧ RF K H' G x d) :=
                ⟨fun i H hi ⟨G, s⟩ => L.goes i H G hi s, fun H ⟨G, s⟩ => L.stops H G s, fun i H x H' hi ⟨G, s⟩ y G' d hd s' => L.yields i H x H' G' d hd s' y⟩
              have kD := upd_keep (o := HO.lst []) hD
              have hO1 : D ∉ O1 := fun z => by
                obtain ⟨o, e, _⟩ := I1.owd D z
                rw [hD] at e; cases e
              have hZ : ¬ Z D := fun z => by
                obtain ⟨o, e⟩ := I1.zt D z
                rw [hD] at e; cases e
              have omD : OM H1 [D] := fun b hb => by
                rw [List.mem_singleton.mp hb, hD]
                exact ⟨fun xs z => (by cases z), fun o u z => (by cases z)⟩
              refine lc_it wk (fun i H' => ∃ e' ms q', ∃ r', LcS K Z O H D S (L2.wipe σ vs) vs i H' e' ms q' ∧ (∃ acc, H' D = some (.lst acc) ∧ acc.length = ms.length) ∧ runC p t f vs (ds.drop i) e' = some r' ∧ ms ++ r'.1 = r.1 ∧ r'.2.1 = r.2.1 ∧ q'.j r'.2.2 = q.j r.2.2)
                ⟨wipeE e1 vs, [], q, r, ⟨⟨O1, [], [], ?_, upd_same, .nil, List.Pairwise.nil, (fun z => nomatch z), fun a ha => ?_, ⟨fun a o n e => ?_⟩, ?_, Nat.le_refl _⟩, wipeE_empty _ _, fun z => ⟨fun a o e => kD a o (qu1 z a o e), by
                  cases e : H D with
                  | none => rfl
                  | some o => have := qu1 z D o e; rw [hD] at this; cases this⟩⟩, ⟨[], upd_same, rfl⟩, er, rfl, rfl, rfl⟩ (fun i H' _ ⟨_, _, _, _, l, _⟩ => by
                  obtain ⟨_, _, _, _, _, _, _, _, _, _, s, _⟩ := l.ex
                  exact ⟨_, s⟩) ?_ ?_
              · have I2 := I1
                obtain ⟨Fs, sl, e5⟩ := I2.sl
                refine ⟨⟨Fs, Slots.stepL.Slots.all (O := [D]) (G' := fun a => ¬ Zp Z [D] a ∧ a ∉ O1) (H := H1) ?_ omD (fun b g hb => ?_) (fun j Fj ej b hb hc => ?_) (fun a o _ e => kD a o e) (fun b g => g), e5⟩, I2.nd, fun a ha z => ?_, fun a z => ?_⟩
                · have key : ∀ {env : Ev} {σ : L2.St} {Fs : List (List Addr)}, Slots K H1 (fun a => ¬ Z a ∧ a ∉ O1) env σ Fs → Slots K H1 (fun a => ¬ Zp Z [D] a ∧ a ∉ O1) env σ Fs := by
                    intro env σ Fs s
                    induction s with
                    | nil => exact .nil
                    | non _ ih => exact .non ih
                    | som h _ ih =>
                      refine .som (h.step (O := []) (fun _ z => nomatch z) (fun _ _ z => nomatch z) (fun _ _ z => nomatch z) (fun a o _ e => e) fun a o g e => ⟨fun z => ?_, g.2⟩) ih
                      rcases z with z | z
                      · exact g.1 z
                      · rw [List.mem_singleton.mp z, hD] at e; cases e
                  exact key sl
                · rw [List.mem_singleton.mp hb] at g
                  exact g.1 (.inr List.mem_cons_self)
                · rw [List.mem_singleton.mp hc] at hb
                  exact hO1 (by rw [← e5]; exact mem_flat_at ej hb)
                · rcases z with z | z
                  · exact I1.nz a ha z
                  · rw [List.mem_singleton.mp z] at ha; exact hO1 ha
                · rcases z with z | z
                  · exact (I1.zt a z).imp fun o e => kD a o e
                  · rw [List.mem_singleton.mp z]; exact ⟨_, upd_same⟩
              · rw [List.mem_singleton.mp ha]; exact hZ
              · obtain ⟨e2, n2, _⟩ := st1.keep a o n e
                refine ⟨kD a o e2, n2, fun z => ?_⟩
                rw [List.mem_singleton.mp z, hD] at e2; cases e2
              · refine L.keep s1 (O := []) (fun _ z => nomatch z) (fun _ _ z => nomatch z) (fun a o _ e => kD a o e) fun a o g e => ⟨fun z => ?_, g.2⟩
                rcases z with z | z
                · exact g.1 z
                · rw [List.mem_singleton.mp z, hD] at e; cases e
              · -- a turn
                rintro i x H2 H3 hi ⟨e2, ms, q2, r2, l2, ⟨acc0, hacc, hal⟩, er2, em1, em2, em3⟩ y
                obtain ⟨O2, acc, F, I2, hD2, rm, nd, nD, nz, st, s2, hlen2⟩ := l2.ex
                obtain ⟨gr, rf⟩ := y _ ds[i] (List.getElem?_eq_getElem hi) s2
                have I3 := I2.grow gr
                have st3 : Step O2 H2 O2 [] H3 := ⟨fun a o n e => ⟨gr a o e, n, fun z => nomatch z⟩⟩
                rw [List.drop_eq_getElem_cons hi] at er2
                unfold runC at er2
                refine ⟨Zp Z (D :: F), O2, e2, ds[i], I3, rf, ?_⟩
                cases ep : p ds[i] e2 with
                | none => simp only [ep] at er2; cases er2
                | some e4 =>
                  simp only [ep] at er2
                  intro σ4 H4 p4 qu4
                  have qu4 := qu4 rfl
                  obtain ⟨O4, I4, st4⟩ := p4.ex
                  have hw : L2.wipe σ4 vs = L2.wipe σ vs := wipe_held p4.io
                  refine ⟨hw, Zp Z (D :: F), O4, e4, I4, ?_⟩
                  have st34 : Step O2 H2 O4 [] H4 := st3.tr0 st4
                  have q34 : Quiet H2 H4 := fun a o e => qu4 a o (gr a o e)
                  have eacc : acc0 = acc := by rw [hD2] at hacc; cases hacc; rfl
                  subst eacc
                  have sz : SZ = 16777216 := rfl
                  have omD2 : OM H2 (D :: O2) := fun b hb => by
                    rcases List.mem_cons.mp hb with z | z
                    · rw [z, hD2]; exact ⟨fun xs z => (by cases z), fun o u z => (by cases z)⟩
                    · exact I2.om b z
                  cases et : t e4 with
                  | stuck => simp only [et] at er2; cases er2
                  | exn c e5 => simp only [et] at er2; cases er2
                  | ok xt e5 q5 =>
                    simp only [et] at er2
                    split at er2
                    · rename_i b e5' q5' heq
                      cases heq
                      refine ⟨b, rfl, fun H5 p5 => ?_⟩
                      obtain ⟨O5, I5, st5⟩ := p5.to
                      have qu5 : q5 ≠ .l → Quiet H4 H5 := by obtain ⟨_, _, _, _, _, _, _, qu, _⟩ := p5.ex; exact qu
                      have st25 : Step O2 H2 O5 [] H5 := st34.tr0 st5
                      cases b with
                      | false =>
                        simp only [] at er2
                        obtain ⟨r3, er3, rfl⟩ := Option.map_eq_some_iff.mp er2
                        obtain ⟨hD5, O6, I6, rm6, st6, k6⟩ := Lc.same (vs := vs) I2 hD2 rm nD nz st st25 I5
                        rw [hw] at I6
                        refine iteF ⟨_, ms, q2.j q5, r3, ⟨⟨O6, acc0, F, I6, hD5, rm6, nd, nD, nz, st6, ?_, by omega⟩, wipeE_empty _ _, fun z => ⟨fun a o e => qu5 (qj_l z).2 a o (q34 a o ((l2.qu (qj_l z).1).1 a o e)), (l2.qu (qj_l z).1).2⟩⟩, ⟨acc0, hD5, hal⟩, er3, em1, em2, ?_⟩
                        · refine L.keep s2 omD2 (fun a g hb => ?_) (fun a o n e => (k6 a o (fun z => n (List.mem_cons_of_mem _ z)) e).1) fun a o g e => ⟨g.1, (k6 a o g.2 e).2⟩
                          rcases List.mem_cons.mp hb with z | z
                          · exact g.1 (.inr (by rw [z]; exact List.mem_cons_self))
                          · exact g.2 z
                        · rw [← em3]; exact (ql_assoc _ _ _)
                      | true =>
                        simp only [] at er2
                        refine iteT ⟨Zp Z (D :: F), O5, e5, I5, ?_⟩
                        cases ef : f e5 with
                        | stuck => simp only [ef] at er2; cases er2
                        | exn c e6 => simp only [ef] at er2; cases er2
                        | ok xf e6 q6 =>
                          simp only [ef] at er2
                          cases xf with
                          | vw m => cases er2
                          | own m =>
                            simp only [] at er2
                            obtain ⟨r3, er3, rfl⟩ := Option.map_eq_some_iff.mp er2
                            intro v H6 p6
                            have qu6 : q6 ≠ .l → Quiet H5 H6 := by obtain ⟨_, _, _, _, _, _, _, qu, _⟩ := p6.ex; exact qu
                            obtain ⟨hD6, O7, F2, I7, rm7, nd7, nD7, nz7, st7, k7⟩ := Lc.add (vs := vs) I2 hD2 rm nd nD nz st st25 p6
                            rw [hw] at I7
                            refine ⟨acc0, hD6, by rw [sizeLine_eq]; omega, _, ms ++ [m], q2.j (q5.j q6), r3, ⟨⟨O7, acc0 ++ [v], F ++ F2, I7, upd_same, rm7, nd7, nD7, nz7, st7, ?_, by simp; omega⟩, wipeE_empty _ _, fun z => ⟨fun a o e => ?_, (l2.qu (qj_l z).1).2⟩⟩, ⟨_, upd_same, by simp [hal]⟩, er3, by rw [← em1]; simp, em2, ?_⟩
                            · refine L.keep s2 omD2 (fun a g hb => ?_) (fun a o n e => (k7 a o (fun z => n (List.mem_cons_of_mem _ z)) (fun z => n (by rw [z]; exact List.mem_cons_self)) e).1) fun a o g e => ?_
                              · rcases List.mem_cons.mp hb with z | z
                                · exact g.1 (.inr (by rw [z]; exact List.mem_cons_self))
                                · exact g.2 z
                              · have ne : a ≠ D := fun z => g.1 (.inr (by rw [z]; exact List.mem_cons_self))
                                obtain ⟨_, n1, n2⟩ := k7 a o g.2 ne e
                                refine ⟨fun z => ?_, n1⟩
                                rcases z with z | z
                                · exact g.1 (.inl z)
                                · rcases List.mem_cons.mp z with z | z
                                  · exact ne z
                                  · rcases List.mem_append.mp z with z | z
                                    · exact g.1 (.inr (List.mem_cons_of_mem _ z))
                                    · exact n2 z
                            · have hq := qj_l z
                              have hq2 := qj_l hq.2
                              have ne : a ≠ D := fun w => by rw [w, (l2.qu hq.1).2] at e; cases e
                              rw [upd_ne ne]
                              exact qu6 hq2.2 a o (qu5 hq2.1 a o (q34 a o ((l2.qu hq.1).1 a o e)))
                            · rw [← em3]; exact (ql_assoc _ _ _)
                    · cases er2
              · rintro H2 ⟨e2, ms, q2, r2, l2, _, er2, em1, em2, em3⟩
                obtain ⟨O2, acc, F, I2, hD2, rm, nd, nD, nz, st, s2, hlen2⟩ := l2.ex
                rw [List.drop_length] at er2
                cases er2
                rw [List.append_nil] at em1
                subst em1
                have em2 : e2 = r.2.1 := em2
                have em3 : q2.j .p = q.j r.2.2 := em3
                subst em2
                subst hS
                obtain ⟨O3, I3, sub3⟩ := I2.rest l2.em em s2.2
                refine h _ H2 ⟨O3, D :: F, I3, ?_, List.nodup_cons.mpr ⟨nD, nd⟩, nz, ⟨fun a o n e => let ⟨e2, n2, f2⟩ := st.keep a o n e; ⟨e2, fun z => n2 (sub3 a z), f2⟩⟩, fun z => (l2.qu fun w => z ?_).1, fun z => (qn_p z).elim⟩
                · have r9 : RMs K H2 (fun a => ¬ Z a ∧ a ∉ O3 ∧ a ∉ D :: F) acc r.1 F := rm.imp fun a g => ⟨g.1, fun z => g.2.1 (sub3 a z), g.2.2⟩
                  simpa using RVs.own (F := D :: F) (RM.lst hD2 r9) .nil
                · rw [← em3, w]; rfl
          · simp only [if_neg em] at h
end
end Q

set_option Elab.async false
set_option linter.all false
set_option maxRecDepth 100000
set_option maxHeartbeats 4000000
/-! Comprehensions as expressions; what is written into lists of names. -/
namespace Q
open PySem PySem.Spec PyProof.Rows L2

abbrev ixs (own : List (Str × Nat)) : List Nat := own.map (·.2)
abbrev offs (own : List (Str × Nat)) : Nat → Bool := fun i => !(ixs own).contains i
abbrev W0 : WX := fun _ _ _ _ => False
def STs (X : Cx) (t : Ev → Res) (ifs : List Expr) : Prop := PTs X ifs (TUT X.K X.mg W0 t)
theorem PTs.imp {X : Cx} {e : List Expr} {t t' : TT} (h : PTs X e t) (i : ∀ σ H Q, t' σ H Q → t σ H Q) : PTs X e t' := ⟨fun pins s σ H Q I q => h.run pins s σ H Q I (i σ H Q q)⟩
theorem sts_nil {X : Cx} : STs X (dLit (.bool true)) [] := PTs.imp pts_nil fun σ H Q ⟨Z, O, env, I, b, eb, k⟩ => by
  cases eb
  exact k H (PostL.nil I)
theorem sts_one {X : Cx} {t : Ev → Res} {c : Expr} (h : ST X t c) : STs X t [c] := pts_one (h _ takes0)
section
variable {X : Cx} {io : Nat → Bool} {f g t src : Ev → Res} {p : Tg} {elt tg iter e : Expr} {ifs : List Expr} {scope : Scope} {own : List (Str × Nat)} {pos spos : Pos}
theorem se_lc (hc : X.calm = true) (hN : X.N.Nodup) (hi : SIT X tg src iter) (ok : BlkOk X.N X.env.scope scope own)
    (hg : ∀ (s : Shared) (H : Hp) (C : Addr) (cl : List (Str × Addr)) (fp : List Addr), SG (X.blk s H scope (compEnvC scope cl C X.env) fp) (offs own) true p tg)
    (ht : ∀ (s : Shared) (H : Hp) (C : Addr) (cl : List (Str × Addr)) (fp : List Addr), STs (X.blk s H scope (compEnvC scope cl C X.env) fp) t ifs)
    (he : ∀ (s : Shared) (H : Hp) (C : Addr) (cl : List (Str × Addr)) (fp : List Addr), SE (X.blk s H scope (compEnvC scope cl C X.env) fp) f elt) (hs : ∀ x, foldedSetIterable iter X.env x = pure x := by intro _; rfl) :
    SE X (dLc p src t f (ixs own)) (.ListComp elt [⟨tg, iter, ifs, 0⟩] scope pos) := fun W tk =>
  PE.imp (pe_lc (g := TUG X.K (offs own) true p) (tt := TUT X.K X.mg W0 t) (te := TU X.K X.mg W0 f) hc hN (hi W tk) ok hg ht (fun s H C cl fp => he s H C cl fp _ takes0) hs) fun σ H Q h => tu_lc h
theorem ss_setLc {i : Nat} {y : Str} {py : Pos} (hc : X.calm = true) (hN : X.N.Nodup) (hy : X.N[i]? = some y) (hyl : X.env.scope.names.lookup y = some .local)
    (hsw : swapsWith (.ListComp elt [⟨tg, iter, ifs, 0⟩] scope pos) (some (.Name y py)) spos.line X.env = pure true) (hi : SIT X tg src iter) (ok : BlkOk X.N X.env.scope scope own)
    (hg : ∀ (s : Shared) (H : Hp) (C : Addr) (cl : List (Str × Addr)) (fp : List Addr), SG (X.blk s H scope (compEnvC scope cl C X.env) fp) (offs own) true p tg)
    (ht : ∀ (s : Shared) (H : Hp) (C : Addr) (cl : List (Str × Addr)) (fp : List Addr), STs (X.blk s H scope (compEnvC scope cl C X.env) fp) t ifs)
    (he : ∀ (s : Shared) (H : Hp) (C : Addr) (cl : List (Str × Addr)) (fp : List Addr), SE (X.blk s H scope (compEnvC scope cl C X.env) fp) f elt) (hio : io i = false := by rfl) (hs : ∀ x, foldedSetIterable iter X.env x = pure x := by intro _; rfl) :
    SS X io (dSet i (dLc p src t f (ixs own))) (.Assign [.Name y py] (.ListComp elt [⟨tg, iter, ifs, 0⟩] scope pos) spos) := fun W tk =>
  PS.imp (ps_setLc (g := TUG X.K (offs own) true p) (tt := TUT X.K X.mg W0 t) (te := TU X.K X.mg W0 f) hc hN hy hyl hsw (hi W tk) ok hg ht (fun s H C cl fp => he s H C cl fp _ takes0) hs) fun D σ H ⟨Z, O, env, I, h⟩ => by
    refine tu_lc ⟨Z, O, env, I, ?_⟩
    unfold dSet at h
    cases ef : dLc p src t f (ixs own) env with
    | stuck => rw [ef] at h; exact h
    | exn c e1 => rw [ef] at h; exact EndS.exn h
    | ok y e1 q =>
      rw [ef] at h
      cases y with
      | vw m => exact h.elim
      | own m =>
        intro v H' p
        simp only [put1] at h
        split at h
        · rename_i hl
          obtain ⟨O', F, I', r, nd, nz, st⟩ := p.own1
          obtain ⟨O2, I2, st2⟩ := I'.put hl r nd nz st
          exact h _ _ ⟨⟨O2, I2, st2⟩, Held.set hio⟩
        · exact h.elim
/-- .. and the new list is never changed any more: frozen -/
def dSetF (i : Nat) (f : Ev → Res) : Ev → Out := dSet i (dFr f)
theorem ss_setLcF {i : Nat} {y : Str} {py : Pos} (hc : X.calm = true) (hN : X.N.Nodup) (hy : X.N[i]? = some y) (hyl : X.env.scope.names.lookup y = some .local)
    (hsw : swapsWith (.ListComp elt [⟨tg, iter, ifs, 0⟩] scope pos) (some (.Name y py)) spos.line X.env = pure true) (hi : SIT X tg src iter) (ok : BlkOk X.N X.env.scope scope own)
    (hg : ∀ (s : Shared) (H : Hp) (C : Addr) (cl : List (Str × Addr)) (fp : List Addr), SG (X.blk s H scope (compEnvC scope cl C X.env) fp) (offs own) true p tg)
    (ht : ∀ (s : Shared) (H : Hp) (C : Addr) (cl : List (Str × Addr)) (fp : List Addr), STs (X.blk s H scope (compEnvC scope cl C X.env) fp) t ifs)
    (he : ∀ (s : Shared) (H : Hp) (C : Addr) (cl : List (Str × Addr)) (fp : List Addr), SE (X.blk s H scope (compEnvC scope cl C X.env) fp) f elt) (hio : io i = false := by rfl) (hs : ∀ x, foldedSetIterable iter X.env x = pure x := by intro _; rfl) :
    SS X io (dSetF i (dLc p src t f (ixs own))) (.Assign [.Name y py] (.ListComp elt [⟨tg, iter, ifs, 0⟩] scope pos) spos) := fun W tk =>
  PS.imp (ps_setLc (g := TUG X.K (offs own) true p) (tt := TUT X.K X.mg W0 t) (te := TU X.K X.mg W0 f) hc hN hy hyl hsw (hi W tk) ok hg ht (fun s H C cl fp => he s H C cl fp _ takes0) hs) fun D σ H ⟨Z, O, env, I, h⟩ => by
    refine tu_lc ⟨Z, O, env, I, ?_⟩
    unfold dSetF dSet dFr at h
    cases ef : dLc p src t f (ixs own) env with
    | stuck => rw [ef] at h; exact h
    | exn c e1 => rw [ef] at h; exact EndS.exn h
    | ok y e1 q =>
      rw [ef] at h
      cases y with
      | vw m => exact h.elim
      | own m =>
        simp only [] at h
        intro v H' p
        cases ed : frz m with
        | none => simp only [ed] at h; exact h.elim
        | some d =>
          simp only [ed, put1] at h
          split at h
          · rename_i hl
            obtain ⟨O', F, I', r, nd, nz, st⟩ := (p.fr ed).own1
            obtain ⟨O2, I2, st2⟩ := I'.put hl r nd nz st
            exact h _ _ ⟨⟨O2, I2, st2⟩, Held.set hio⟩
          · exact h.elim
end

/-! ### x[i] = d, x[i][j] = d -/
section
variable {K : PySem.W.Frag} {mg : Str → Option Value} {H H' H0 H1 H2 : Hp} {G G' Gv Gv' : Addr → Prop} {O O' O0 O1 O2 F F' F1 F2 : List Addr} {Z : Addr → Prop} {env env1 env2 : Ev} {σ σ1 σ' : L2.St} {vs : List Nat}
theorem RMs.setF {ws : List V} {ms : List M} {v : V} {d : PyData} {j : Nat} (r : RMs K H G ws ms F) (nd : F.Nodup) (h : RF K H G v d) : ∃ F2, RMs K H G (ws.set j v) (ms.set j (.fz d)) F2 ∧ (∀ b ∈ F2, b ∈ F) ∧ F2.Nodup := by
  obtain ⟨F2, r2, s2, d2⟩ := r.setAt (j := j) (.fz h)
  exact ⟨F2, r2, (fun b hb => (s2 b hb).elim id fun z => nomatch z), d2 (by simpa using nd)⟩
/-- the item at j becomes d -/
def setD (k : Int) (d : PyData) : List M → Option (List M) := fun ms => (ixN ms.length k).map fun j => ms.set j (.fz d)
/-- a value that its evaluation leaves as an int, and what is behind it -/
def intE : Res → Option (Int × Ev × Ql)
  | .ok (.own (.fz (.int k))) e q => some (k, e, q)
  | _ => none
theorem intE_some {r : Res} {k : Int} {e : Ev} {q : Ql} (h : intE r = some (k, e, q)) : r = .ok (.own (.fz (.int k))) e q := by
  unfold intE at h
  split at h
  · cases h; rfl
  · cases h
def held1 (e : Ev) (s : Nat) : Bool := match e[s]? with
  | some (some _) => true
  | _ => false
theorem SI.val {s : Nat} (I : SI K Z O env σ H) (h : held1 env s = true) : ∃ v, σ[s]? = some (some v) := by
  unfold held1 at h
  split at h
  · rename_i m e
    obtain ⟨v, _, h1, _⟩ := I.get e
    exact ⟨v, h1⟩
  · cases h
/-- write at a path of the name's tree -/
def wrAt (s : Nat) (p : List Nat) (f : List M → Option (List M)) (e : Ev) : Option Ev := match e[s]? with
  | some (some m) => (M.wr p f m).map fun m' => e.set s (some m')
  | _ => none
def gPut (s : Nat) (f : Ev → Res) : Tg := fun d e => if held1 e s = true then (match intE (f e) with
  | some (k, e1, _) => wrAt s [] (setD k d) e1
  | none => none) else none
theorem wrAt_some {s : Nat} {p : List Nat} {f : List M → Option (List M)} {e e' : Ev} (h : wrAt s p f e = some e') : ∃ m m', e[s]? = some (some m) ∧ M.wr p f m = some m' ∧ e' = e.set s (some m') := by
  unfold wrAt at h
  split at h
  · rename_i m em
    obtain ⟨m', h1, rfl⟩ := Option.map_eq_some_iff.mp h
    exact ⟨m, m', em, h1, rfl⟩
  · cases h
/-- .. the item k of the list becomes the datum d that v says -/
theorem SI.put_at {s : Nat} {p : List Nat} {k : Int} {d : PyData} {v : V} {e' : Ev} (I : SI K Z O env σ H) (r : RF K H (fun a => ¬ Z a ∧ a ∉ O) v d) (h : wrAt s p (setD k d) env = some e') :
    ∃ w a xs j, σ[s]? = some (some w) ∧ Way K H w p a ∧ H a = some (.lst xs) ∧ ixN xs.length k = some j ∧ ∃ O2, SI K Z O2 e' σ (upd H a (.lst (xs.set j v))) ∧ Step O H O2 [] (upd H a (.lst (xs.set j v))) := by
  obtain ⟨m, m', em, ew, rfl⟩ := wrAt_some h
  obtain ⟨w, a, xs, ms, Fr, ms', h1, wy, ha, aO, rms, ef, frO, nr, go⟩ := SI.wr (F := []) (by rw [Zp_nil]; exact I) em ew
  unfold setD at ef
  obtain ⟨j, hj, rfl⟩ := Option.map_eq_some_iff.mp ef
  obtain ⟨F2, r2, s2, d2⟩ := RMs.setF (j := j) (rms.imp (G' := fun a => ¬ Z a ∧ a ∉ O ∧ a ∉ ([] : List Addr)) fun a g => ⟨fun z => g.1 (.inl z), g.2, fun z => nomatch z⟩) nr (r.imp fun a g => ⟨g.1, g.2, fun z => nomatch z⟩)
  obtain ⟨O2, I2, st2⟩ := go (O0 := O) (H0 := H) r2 d2 (fun b hb => .inl (s2 b hb)) (fun _ z => nomatch z) Step.refl
  exact ⟨w, a, xs, j, h1, wy, ha, by rw [rms.length]; exact hj, O2, I2, st2⟩
end
section
variable {X : Cx} {io : Nat → Bool} {f g t src : Ev → Res} {p : Tg} {e i j : Expr} {pos px p2 : Pos}
theorem sg_put {s : Nat} {x : Str} (hN : X.N[s]? = some x) (hv : Vis X.env.scope x) (hi : SE X f i) (hd : (x == ("__debug__" : Str)) = false := by decide) (hcd : (x == ("__classdict__" : Str)) = false := by decide)
    (ha : ∀ v, assign (.Subscript (.Name x px) i pos) X.env v = (do
      let ov ← holding [v] (eval (.Name x px) X.env)
      let iv ← holding [v, ov] (eval i X.env)
      standAt pos
      holding [v, ov, iv] (setItem ov iv v)
      release [v, ov, iv] []) := by intro _; rfl) : SG X io false (gPut s f) (.Subscript (.Name x px) i pos) := by
  refine PG.imp (pg_sub (pe_var hN hv hd hcd) (hi W0 takes0) set_list ha) fun v σ H Q ⟨Z, O, env, d, I, r, h⟩ => ?_
  unfold gPut at h
  split at h
  · rename_i e' he
    split at he
    · rename_i hh
      obtain ⟨w, hw⟩ := I.val hh
      refine ⟨w, hw, Z, O, env, I, ?_⟩
      split at he
      · rename_i k e1 q1 hf
        rw [intE_some hf]
        intro iv H1 p1
        obtain ⟨O1, I1, r1, st1, _⟩ := p1.fz1
        cases r1.intI
        obtain ⟨w', a, xs, j, h1, wy, ha2, hj, O2, I2, st2⟩ := SI.put_at I1 (r.after I st1) he
        rw [hw] at h1; cases h1
        cases wy
        exact ⟨a, xs, k, j, rfl, rfl, ha2, hj, h _ _ ⟨⟨O2, I2, st1.tr0 st2⟩, Held.refl⟩ fun z => by cases z⟩
      · cases he
    · cases he
  · exact h.elim
def Ql.isL : Ql → Bool
  | .l => true
  | _ => false
theorem Ql.nl {q : Ql} (h : q.isL ≠ true) : q ≠ .l := fun e => h (by rw [e]; rfl)
/-- x[i][j] = d -/
def gPut2 (s : Nat) (f g : Ev → Res) : Tg := fun d e => if held1 e s = true then (match intE (f e) with
  | some (k, e1, _) => (match e1[s]? with
    | some (some (.lst ms)) => (match ixN ms.length k with
      | some n => (match intE (g e1) with
        | some (l, e2, q2) => if q2.isL = true then none else wrAt s [n] (setD l d) e2
        | none => none)
      | none => none)
    | _ => none)
  | none => none) else none
theorem sg_put2 {s : Nat} {x : Str} (hN : X.N[s]? = some x) (hv : Vis X.env.scope x) (hi : SE X f i) (hs : PlainIx i) (hj : SE X g j) (hd : (x == ("__debug__" : Str)) = false := by decide) (hcd : (x == ("__classdict__" : Str)) = false := by decide)
    (ha : ∀ v, assign (.Subscript (.Subscript (.Name x px) i p2) j pos) X.env v = (do
      let ov ← holding [v] (eval (.Subscript (.Name x px) i p2) X.env)
      let iv ← holding [v, ov] (eval j X.env)
      standAt pos
      holding [v, ov, iv] (setItem ov iv v)
      release [v, ov, iv] []) := by intro _; rfl) : SG X io false (gPut2 s f g) (.Subscript (.Subscript (.Name x px) i p2) j pos) := by
  refine PG.imp (pg_sub (pe_ix ix_seq (pe_var hN hv hd hcd) (hi W0 takes0) hs) (hj W0 takes0) set_list ha) fun v σ H Q ⟨Z, O, env, d, I, r, h⟩ => ?_
  unfold gPut2 at h
  split at h
  · rename_i e' he
    split at he
    · rename_i hh
      obtain ⟨w, hw⟩ := I.val hh
      refine ⟨w, hw, Z, O, env, I, ?_⟩
      split at he
      · rename_i k e1 q1 hf
        rw [intE_some hf]
        intro iv H1 p1
        obtain ⟨O1, I1, r1, st1, _⟩ := p1.fz1
        cases r1.intI
        split at he
        · rename_i ms em
          split at he
          · rename_i n hn
            split at he
            · rename_i l e2 q2 hg
              split at he
              · cases he
              · rename_i hq
                -- the inner list's address
                obtain ⟨w', F1, hw', rm1, _⟩ := I1.get em
                rw [hw] at hw'; cases hw'
                cases rm1 with
                | lst ha1 rms1 =>
                  rename_i a1 xs1 F0 _
                  have hlt : n < xs1.length := by
                    rw [rms1.length]
                    exact (ixN_seq hn).2.1
                  refine .inl ⟨a1, xs1, k, xs1[n], rfl, rfl, .inl (.inl ha1), ?_, ?_⟩
                  · unfold atI
                    rw [rms1.length, hn]
                    exact List.getElem?_eq_getElem hlt
                  refine ⟨Z, O1, e1, I1, ?_⟩
                  rw [intE_some hg]
                  intro jv H2 p2
                  obtain ⟨O2, I2, r2, st2, qu2⟩ := p2.fz1
                  cases r2.intI
                  have ha2 := qu2 (Ql.nl hq) _ _ ha1
                  obtain ⟨w', a, xs, j, h1, wy, ha3, hj, O3, I3, st3⟩ := SI.put_at I2 ((r.after I st1).after I1 st2) he
                  rw [hw] at h1; cases h1
                  cases wy with
                  | lst hb hx wy =>
                    rw [ha2] at hb; cases hb
                    cases wy with
                    | nil =>
                      rw [List.getElem?_eq_getElem hlt] at hx
                      exact ⟨a, xs, l, j, Option.some.inj hx, rfl, ha3, hj, h _ _ ⟨⟨O3, I3, (st1.tr0 st2).tr0 st3⟩, Held.refl⟩ fun z => by cases z⟩
            · cases he
          · cases he
        · cases he
      · cases he
    · cases he
  · exact h.elim
end
end Q

set_option Elab.async false
set_option linter.all false
set_option maxRecDepth 100000
set_option maxHeartbeats 4000000
/-! Functions and calls. -/
namespace Q
open PySem PySem.Spec PyProof.Rows L2

/-! ### what a def promises -/
def startE (n : Nat) (ms : List M) : Ev := ms.map some ++ List.replicate (n - ms.length) none
def endF (Q : VK) : Ends := { nx := fun _ H' => Q .non H', rt := Q }
def WF (E : XK) : WX := fun cls d _ H => E cls d H
/-- n: the number of names; k: the number of parameters; io: the parameters that are lent -/
def SpQ (K : PySem.W.Frag) (mg : Str → Option Value) (N : List Str) (io : Nat → Bool) (k : Nat) (den : Ev → Out) : Sp := fun vs H Q E => vs.length = k ∧ TUS K mg (WF E) io den (endF Q) (L2.start N vs) H
abbrev FnQ (P : Program) (w : World) (K : PySem.W.Frag) (mg : Str → Option Value) (base : Heap) (j : Nat) (f : Addr) (fd : FuncData) (ps N : List Str) (io : Nat → Bool) (den : Ev → Out) : Prop := FnOk P w K mg base (L2.CX P w) j f fd ps (SpQ K mg N io ps.length den)
theorem fn_mk {P : Program} {w : World} {K : PySem.W.Frag} {mg : Str → Option Value} {base : Heap} {x qual : Str} {st : Stmt} {f : Addr} {fd : FuncData} {N ps : List Str} {k : Nat} {io : Nat → Bool} {den : Ev → Out} (F : Fun K x qual st f fd) (S : FnScope N ps (defScope st))
    (body : ∀ (cdv : Value) (A : Around) (outer : List Env) (s : Shared) (H : Hp) (E : XK), Room k (A.deeper (envOfC qual (defScope st) s.heap.objs.size f cdv)) → SSs (cxOf (L2.CX P w) P w K mg base N qual (defScope st) f cdv A outer s H E) io den (defBody st)) :
    FnQ P w K mg base (k + 1) f fd ps N io den :=
  F.okX S (fun _ _ _ _ h => h.1) fun cdv A outer s H vs Q E hr hsp => ⟨_, body cdv A outer s H E hr (WF E) (takes_of rfl rfl rfl rfl), hsp.2⟩
theorem FnQ.mono {P : Program} {w : World} {K : PySem.W.Frag} {mg : Str → Option Value} {base : Heap} {f : Addr} {fd : FuncData} {N ps : List Str} {i j : Nat} {io : Nat → Bool} {den : Ev → Out} (F : FnQ P w K mg base i f fd ps N io den) (h : i ≤ j) : FnQ P w K mg base j f fd ps N io den := FnOk.mono F h

/-! ### the entry -/
section
variable {K : PySem.W.Frag} {mg : Str → Option Value} {H H' H0 H1 H2 : Hp} {G G' Gv Gv' : Addr → Prop} {O O' O0 O1 O2 F F' F1 F2 : List Addr} {Z : Addr → Prop} {env env1 env2 : Ev} {σ σ1 σ' : L2.St}
theorem slots_repl : ∀ n : Nat, Slots K H G (List.replicate n none) (List.replicate n none) (List.replicate n [])
  | 0 => .nil
  | n + 1 => .non (slots_repl n)
theorem slots_start : ∀ {vs : List V} {ms : List M} {F : List Addr} (n : Nat), RMs K H G vs ms F → ∃ Fs, Slots K H G (ms.map some ++ List.replicate n none) (vs.map some ++ List.replicate n none) Fs ∧ Fs.flatten = F
  | _, _, _, n, .nil => ⟨List.replicate n [], slots_repl n, by simp⟩
  | _, _, _, n, .cons h r => by
    obtain ⟨Fs, s, e⟩ := slots_start n r
    exact ⟨_ :: Fs, .som h s, by rw [List.flatten_cons, e]⟩
theorem si_start {N : List Str} {vs : List V} {ms : List M} (r : RMs K H (fun a => ¬ Z a ∧ a ∉ F) vs ms F) (nd : F.Nodup) (nz : ∀ a ∈ F, ¬ Z a) (zt : ∀ a, Z a → ∃ o, H a = some o) : SI K Z F (startE N.length ms) (L2.start N vs) H := by
  obtain ⟨Fs, s, e⟩ := slots_start (N.length - ms.length) r
  refine ⟨⟨Fs, ?_, e⟩, nd, nz, zt⟩
  unfold startE L2.start
  rw [show vs.length = ms.length from r.length]
  exact s
mutual
/-- no list within what is frozen -/
def noL : PyData → Bool
  | .list _ => false
  | .tuple ds => noLs ds
  | .dict _ => false
  | _ => true
def noLs : List PyData → Bool
  | [] => true
  | d :: ds => noL d && noLs ds
end
mutual
def noLM : M → Bool
  | .fz d => noL d
  | .lst ms => noLMs ms
  | .tup ms => noLMs ms
  | .dK _ ms => noLMs ms
  | .dT _ ms => noLMs ms
def noLMs : List M → Bool
  | [] => true
  | m :: ms => noLM m && noLMs ms
end
mutual
theorem RF.noG : ∀ {v : V} {d : PyData}, RF K H G v d → noL d = true → RF K H G' v d
  | _, _, .non, _ => .non
  | _, _, .bl b, _ => .bl b
  | _, _, .int b, _ => .int b
  | _, _, .str b, _ => .str b
  | _, _, .lst _ _ _, h => by unfold noL at h; cases h
  | _, _, .tup h r, n => .tup h (RFs.noG r (by unfold noL at n; exact n))
theorem RFs.noG : ∀ {vs : List V} {ds : List PyData}, RFs K H G vs ds → noLs ds = true → RFs K H G' vs ds
  | _, _, .nil, _ => .nil
  | _, _, .cons h r, n => by
    unfold noLs at n
    rw [Bool.and_eq_true] at n
    exact .cons (RF.noG h n.1) (RFs.noG r n.2)
end
mutual
theorem RM.noG : ∀ {v : V} {m : M} {F : List Addr}, RM K H G v m F → noLM m = true → RM K H G' v m F
  | _, _, _, .fz h, n => .fz (h.noG (by unfold noLM at n; exact n))
  | _, _, _, .lst h r, n => .lst h (RMs.noG r (by unfold noLM at n; exact n))
  | _, _, _, .tup h r, n => .tup h (RMs.noG r (by unfold noLM at n; exact n))
  | _, _, _, .dK h r, n => .dK h (RMs.noG r (by unfold noLM at n; exact n))
  | _, _, _, .dT h r, n => .dT h (RMs.noG r (by unfold noLM at n; exact n))
theorem RMs.noG : ∀ {vs : List V} {ms : List M} {F : List Addr}, RMs K H G vs ms F → noLMs ms = true → RMs K H G' vs ms F
  | _, _, _, .nil, _ => .nil
  | _, _, _, .cons h r, n => by
    unfold noLMs at n
    rw [Bool.and_eq_true] at n
    exact .cons (RM.noG h n.1) (RMs.noG r n.2)
end
theorem Slots.stepA : ∀ {env : Ev} {σ : L2.St} {Fs : List (List Addr)}, Slots K H G env σ Fs → OM H O → (∀ b, G b → b ∉ O) → (∀ b ∈ Fs.flatten, b ∉ O) → (∀ b o, b ∉ O → H b = some o → H' b = some o) → (∀ b o, G b → H b = some o → G' b) → Slots K H' G' env σ Fs
  | _, _, _, .nil, _, _, _, _, _ => .nil
  | _, _, _, .non r, om, go, ff, fr, gg => .non (Slots.stepA r om go (fun b hb => ff b (by simpa using hb)) fr gg)
  | _, _, _, .som h r, om, go, ff, fr, gg => .som (h.step om go (fun b hb => ff b (by rw [List.flatten_cons]; exact List.mem_append_left _ hb)) fr gg) (Slots.stepA r om go (fun b hb => ff b (by rw [List.flatten_cons]; exact List.mem_append_right _ hb)) fr gg)
/-- the caller's slots behind a call that had F -/
theorem SI.call (I : SI K (Zp Z F) O1 env1 σ H1) (om : OM H1 F) (nz : ∀ a ∈ F, ¬ Z a) (st : Step F H1 O2 F2 H2) (al : ∀ a ∈ F2, ∃ o, H2 a = some o) : SI K (Zp Z F2) O1 env1 σ H2 := by
  have ow := I.owd
  obtain ⟨Fs, s, rfl⟩ := I.sl
  have nF : ∀ a ∈ Fs.flatten, a ∉ F := fun a ha z => I.nz a ha (.inr z)
  refine ⟨⟨Fs, s.stepA om (fun b g hb => g.1 (.inr hb)) nF (fun b o n e => (st.keep b o n e).1) (fun b o g e => ⟨fun z => ?_, g.2⟩), rfl⟩, I.nd, fun a ha z => ?_, fun a z => ?_⟩
  · rcases z with z | z
    · exact g.1 (.inl z)
    · exact (st.keep b o (fun q => g.1 (.inr q)) e).2.2 z
  · rcases z with z | z
    · exact I.nz a ha (.inl z)
    · obtain ⟨o, e, _⟩ := ow a ha
      exact (st.keep a o (nF a ha) e).2.2 z
  · rcases z with z | z
    · obtain ⟨o, e⟩ := I.zt a (.inl z)
      exact ⟨o, (st.keep a o (fun q => nz a q z) e).1⟩
    · exact al a z
end
/-! ### calls -/
def anyV (xs : List Val) : Bool := xs.any Val.isV
def datas : List Val → Option (List PyData)
  | [] => some []
  | .own (.fz d) :: xs => (datas xs).map fun ds => d :: ds
  | .vw m :: xs => (frz m).bind fun d => (datas xs).map fun ds => d :: ds
  | _ => none
/-- the parameters' trees, and whether one of them is only looked at -/
def argMs (xs : List Val) : Option (List M × Bool) := match anyV xs with
  | true => (datas xs).map fun ds => (ds.map M.fz, true)
  | false => (owns xs).map fun ms => (ms, false)
def allFz (ms : List M) : Bool := (leaves ms).isSome
def retR (m : M) (env : Ev) (q : Ql) (v : Bool) : Res := match v with
  | true => if noLM m = true then .ok (.own m) env q else .stuck
  | false => .ok (.own m) env q
def qCall (ms : List M) (q : Ql) : Ql := match allFz ms with
  | true => q.n
  | false => .l
def dCall (n : Nat) (den : Ev → Out) (fs : List (Ev → Res)) : Ev → Res := fun env => match evs fs env with
  | .ok xs env1 q => (match argMs xs with
    | some (ms, v) => (match den (startE n ms) with
      | .ret m _ => retR m env1 (qCall ms q) v
      | .nx _ => .ok (.own (.fz .none)) env1 (qCall ms q)
      | .exn c _ => .exn c env1
      | _ => .stuck)
    | none => .stuck)
  | .exn c e => .exn c e
  | .stuck => .stuck
section
variable {K : PySem.W.Frag} {mg : Str → Option Value} {H H' H0 H1 H2 : Hp} {G G' Gv Gv' : Addr → Prop} {O O' O0 O1 O2 F F' F1 F2 : List Addr} {Z : Addr → Prop} {env env1 env2 : Ev} {σ σ1 σ' : L2.St}
theorem RVs.datas : ∀ {vs : List V} {xs : List Val} {F : List Addr} {ds : List PyData}, RVs K H G Gv vs xs F → Q.datas xs = some ds → (∀ a, G a → G' a) → (∀ a, Gv a → G' a) → RFs K H G' vs ds ∧ F = []
  | _, _, _, ds, .nil, e, _, _ => by unfold Q.datas at e; cases e; exact ⟨.nil, rfl⟩
  | _, _, _, ds, .own (m := m) h r, e, g, g' => by
    cases m with
    | fz d =>
      unfold Q.datas at e
      obtain ⟨ds', e1, rfl⟩ := Option.map_eq_some_iff.mp e
      obtain ⟨h1, rfl⟩ := h.fzD
      obtain ⟨h2, rfl⟩ := RVs.datas r e1 g g'
      exact ⟨.cons (h1.imp g) h2, rfl⟩
    | lst _ => unfold Q.datas at e; cases e
    | tup _ => unfold Q.datas at e; cases e
    | dK _ _ => unfold Q.datas at e; cases e
    | dT _ _ => unfold Q.datas at e; cases e
  | _, _, _, ds, .vw h hf r, e, g, g' => by
    unfold Q.datas at e
    obtain ⟨d, e1, e2⟩ := Option.bind_eq_some_iff.mp e
    obtain ⟨ds', e3, rfl⟩ := Option.map_eq_some_iff.mp e2
    obtain ⟨h2, rfl⟩ := RVs.datas r e3 g g'
    exact ⟨.cons (h.freeze e1 g fun a ha => g' a (hf a ha)) h2, rfl⟩
theorem allFz_nil {vs : List V} {ms : List M} (r : RMs K H G vs ms F) (h : allFz ms = true) : F = [] := by
  unfold allFz at h
  cases e : leaves ms with
  | none => rw [e] at h; cases h
  | some ds => exact (r.leaf e).2
theorem leaves_fz (ds : List PyData) : leaves (ds.map M.fz) = some ds := by
  induction ds with
  | nil => rfl
  | cons d ds ih => simp [leaves, ih]
theorem Step.quiet (st : Step [] H O F H') : Quiet H H' := fun a o e => (st.keep a o (fun z => nomatch z) e).1
/-- a call's end, at the caller -/
theorem call_post {q : Ql} {ms : List M} {m : M} {io : Nat → Bool} {τ τ' : L2.St} {e' : Ev} {v : V} {Z' : Addr → Prop} (I1 : SI K (Zp Z F) O1 env1 σ H1) (nz : ∀ a ∈ F, ¬ Z a) (st1 : Step O H O1 F H1) (qu : q ≠ .l → Quiet H H1) (om : OM H1 F) (aF : allFz ms = true → F = [])
    (p : PostR K Z' F io τ H1 m e' v τ' H2) (hZ : ∀ a, Z a → Z' a) (hg : ∀ (F2 O2 : List Addr), RM K H2 (fun a => ¬ Z' a ∧ a ∉ O2 ∧ a ∉ F2) v m F2 → RM K H2 (fun a => ¬ Z a ∧ a ∉ O1 ∧ a ∉ F2) v m F2) : Post K Z O env σ H v H2 (.own m) env1 (qCall ms q) := by
  obtain ⟨O2, F2, I2, rv, nd2, nz2, st2⟩ := p.ex
  have al : ∀ a ∈ F2, ∃ o, H2 a = some o := fun a ha => (rv.owd a ha).imp fun o e => e.1
  refine ⟨O1, F2, I1.call om nz st2 al, ?_, nd2, fun a ha z => nz2 a ha (hZ a z), ⟨fun a o n e => ?_⟩, fun z => ?_, fun z => ?_⟩
  · simpa using RVs.own (hg F2 O2 rv) .nil
  · obtain ⟨e1, n1, f1⟩ := st1.keep a o n e
    obtain ⟨e2, n2, f2⟩ := st2.keep a o f1 e1
    exact ⟨e2, n1, f2⟩
  · unfold qCall at z
    cases ea : allFz ms with
    | false => rw [ea] at z; exact absurd rfl z
    | true =>
      rw [ea] at z
      have hF := aF ea
      subst hF
      exact fun a o e => st2.quiet a o (qu (qn_l z) a o e)
  · unfold qCall at z
    cases ea : allFz ms with
    | false => rw [ea] at z; cases z
    | true => rw [ea] at z; exact (qn_p z).elim
/-- the callee's entry and end, no name lent -/
theorem call_go {N : List Str} {io : Nat → Bool} {den : Ev → Out} {fs : List (Ev → Res)} {Q : VK} {W : WX} (h : TU K mg W (dCall N.length den fs) σ H Q) :
    TUL K mg W (evs fs) σ H fun vs H1 => SpQ K mg N io fs.length den (vs ++ []) H1 Q (WE W σ) := by
  obtain ⟨Z, O, env, I, h⟩ := h
  refine ⟨Z, O, env, I, ?_⟩
  unfold dCall at h
  cases e : evs fs env with
  | stuck => rw [e] at h; exact h
  | exn c e1 => rw [e] at h; exact h
  | ok xs env1 q =>
    rw [e] at h
    simp only [] at h
    intro vs H1 p
    rw [List.append_nil]
    refine ⟨p.len.trans (evs_len e), ?_⟩
    obtain ⟨O1, F, I1, r1, nd, nz, st1, qu, _⟩ := p.ex
    cases em : argMs xs with
    | none => simp only [em] at h
    | some mv =>
      obtain ⟨ms, vw⟩ := mv
      simp only [em] at h
      -- what the callee is given
      obtain ⟨Z', hz, rm, nz', zt', hg⟩ : ∃ Z' : Addr → Prop, (∀ a, Z a → Z' a) ∧ RMs K H1 (fun a => ¬ Z' a ∧ a ∉ F) vs ms F ∧ (∀ a ∈ F, ¬ Z' a) ∧ (∀ a, Z' a → ∃ o, H1 a = some o) ∧
          ∀ (m : M) (v : V) (H2 : Hp) (F2 O2 : List Addr), (vw = true → noLM m = true) → RM K H2 (fun a => ¬ Z' a ∧ a ∉ O2 ∧ a ∉ F2) v m F2 → RM K H2 (fun a => ¬ Z a ∧ a ∉ O1 ∧ a ∉ F2) v m F2 := by
        unfold argMs at em
        cases ev : anyV xs with
        | true =>
          rw [ev] at em
          obtain ⟨ds, ed, e2⟩ := Option.map_eq_some_iff.mp em
          cases e2
          obtain ⟨rf, rfl⟩ := r1.datas (G' := fun a => ¬ Z a ∧ a ∉ ([] : List Addr)) ed (fun a g => ⟨g.1, fun z => nomatch z⟩) fun a g => ⟨g, fun z => nomatch z⟩
          exact ⟨Z, fun _ z => z, rf.tms, nz, fun a z => I1.zt a (.inl z), fun m v H2 F2 O2 nl r => r.noG (nl rfl)⟩
        | false =>
          rw [ev] at em
          obtain ⟨ms', ed, e2⟩ := Option.map_eq_some_iff.mp em
          cases e2
          refine ⟨fun a => Z a ∨ a ∈ O1, fun _ z => .inl z, (r1.ms ed).imp fun a g => ⟨fun z => z.elim g.1 g.2.1, g.2.2⟩, fun a ha z => ?_, fun a z => ?_, fun m v H2 F2 O2 _ r => r.imp fun a g => ⟨fun z => g.1 (.inl z), fun z => g.1 (.inr z), g.2.2⟩⟩
          · rcases z with z | z
            · exact nz a ha z
            · exact I1.nz a z (.inr ha)
          · rcases z with z | z
            · exact I1.zt a (.inl z)
            · obtain ⟨o, e, _⟩ := I1.owd a z
              exact ⟨o, e⟩
      have om : OM H1 F := OM.of rm.owd
      refine ⟨Z', F, startE N.length ms, si_start rm nd nz' zt', ?_⟩
      cases ed : den (startE N.length ms) with
      | stuck => simp only [ed] at h
      | brk _ => simp only [ed] at h
      | ct _ => simp only [ed] at h
      | ret m e' =>
        simp only [ed] at h
        intro v σ' H2 pr
        have fin : (vw = true → noLM m = true) → Post K Z O env σ H v H2 (.own m) env1 (qCall ms q) := fun nl => call_post I1 nz st1 qu om (allFz_nil rm) pr hz fun F2 O2 r => hg m v H2 F2 O2 nl r
        cases vw with
        | false => exact h v H2 (fin fun z => by cases z)
        | true =>
          simp only [retR] at h
          by_cases nl : noLM m = true
          · rw [if_pos nl] at h
            exact h v H2 (fin fun _ => nl)
          · rw [if_neg nl] at h
            exact h.elim
      | nx e' =>
        simp only [ed] at h
        intro σ' H2 ps
        obtain ⟨O2, I2, st2⟩ := ps.ex
        refine h _ H2 (call_post (m := .fz .none) (v := .non) (e' := e') (τ := L2.start N vs) (τ' := σ') I1 nz st1 qu om (allFz_nil rm) ⟨⟨O2, [], by rw [Zp_nil]; exact I2, .fz .non, List.Pairwise.nil, (fun _ z => nomatch z), st2⟩, ps.io⟩ hz fun F2 O2 r => ?_)
        cases r with
        | fz r => exact .fz .non
      | exn c e' =>
        simp only [ed] at h
        intro cls d σ' H2 px
        obtain ⟨O2, I2, st2⟩ := px.ex
        have I3 := I1.call om nz st2 (fun _ z => nomatch z)
        rw [Zp_nil] at I3
        exact h cls d H2 ⟨⟨O1, I3, ⟨fun a o n e => by
          obtain ⟨e1, n1, f1⟩ := st1.keep a o n e
          obtain ⟨e2, n2, f2⟩ := st2.keep a o f1 e1
          exact ⟨e2, n1, fun z => nomatch z⟩⟩⟩, px.er⟩
end
section
variable {X : Cx} {k : Nat} {f : Addr} {fd : FuncData} {ps N : List Str} {io : Nat → Bool} {den : Ev → Out} {x : Str} {p pos : Pos} {e : Expr} {es : List Expr} {fs : List (Ev → Res)}
theorem se_call (Fn : FnQ X.prog X.w X.K X.mg X.base k f fd ps N io den) (hr : Room k X.A) (hg : Gl X x) (hm : X.mg x = some (.ref f)) (hk : PySem.W.keepIn X.K (.ref f) = true) (hb : Binds X.K fd ps []) (ha : SA X (evs fs) (e :: es)) (hl : fs.length = ps.length := by rfl)
    (hdb : (x == ("__debug__" : Str)) = false := by decide) (he : starEach (e :: es) X.env = (false, eval e X.env) :: starEach es X.env := by rfl) (hpl : (backTo pos (starEach es X.env)).any (·.1) = false := by rfl) :
    SE X (dCall N.length den fs) (.Call (.Name x p) (e :: es) [] pos) := fun W tk =>
  PE.imp (pe_callSD Fn hr hg hm hk hb .nil (passAt tk) (ha W tk) hdb he hpl) fun σ H Q h => by
    have := call_go (io := io) h
    rw [hl] at this
    exact this
end
end Q

set_option Elab.async false
set_option linter.all false
set_option maxRecDepth 100000
set_option maxHeartbeats 4000000
/-! Calls that lend a name's list. -/
namespace Q
open PySem PySem.Spec PyProof.Rows L2

inductive Arg where
  | v (f : Ev → Res)
  | io (s : Nat)
def vparts : List Arg → List (Ev → Res)
  | [] => []
  | .v f :: as => f :: vparts as
  | .io _ :: as => vparts as
def ioOf : List Arg → List Nat
  | [] => []
  | .v _ :: as => ioOf as
  | .io s :: as => s :: ioOf as
def ioPos : List Arg → Nat
  | [] => 0
  | .v _ :: as => ioPos as + 1
  | .io _ :: _ => 0
def fillA (σ : L2.St) : List Arg → List V → Option (List V)
  | [], [] => some []
  | .v _ :: as, v :: vs => (fillA σ as vs).map fun ws => v :: ws
  | .io s :: as, vs => match σ[s]? with
    | some (some v) => (fillA σ as vs).map fun ws => v :: ws
    | _ => none
  | _, _ => none
def mergeM : List Arg → List M → M → List M
  | .v _ :: as, m :: ms, x => m :: mergeM as ms x
  | .io _ :: as, ms, x => x :: mergeM as ms x
  | _, _, _ => []
def TUA (K : PySem.W.Frag) (mg : Str → Option Value) (W : WX) (as : List Arg) : TA := fun σ H R => (∀ s ∈ ioOf as, ∃ v, σ[s]? = some (some v)) ∧ TUL K mg W (evs (vparts as)) σ H fun vs H1 => ∀ ws, fillA σ as vs = some ws → R ws H1
def SAA (X : Cx) (as : List Arg) (es : List Expr) : Prop := ∀ W, Takes X W → PA X es (TUA X.K X.mg W as)
section
variable {X : Cx} {as : List Arg} {e : Expr} {es : List Expr} {f : Ev → Res}
theorem saa_nil : SAA X [] [] := fun W tk => PA.imp pa_nil fun σ H R h => tul_nil h.2 [] rfl
theorem saa_v (h1 : SE X f e) (h2 : SAA X as es) (hs : starEach (e :: es) X.env = (false, eval e X.env) :: starEach es X.env := by rfl) : SAA X (.v f :: as) (e :: es) := fun W tk =>
  PA.imp (pa_cons (h1 W tk) (h2 W tk) hs) fun σ H R h => tu_mono (tu_cons h.2) fun v H1 q => ⟨h.1, tul_mono q fun vs H2 k ws hw => k (v :: ws) (by unfold fillA; rw [hw]; rfl)⟩
theorem saa_io {s : Nat} {x : Str} {pos : Pos} (hN : X.N[s]? = some x) (hv : Vis X.env.scope x) (h2 : SAA X as es) (hs : starEach (.Name x pos :: es) X.env = (false, eval (.Name x pos) X.env) :: starEach es X.env := by rfl) (hd : (x == ("__debug__" : Str)) = false := by decide) (hcd : (x == ("__classdict__" : Str)) = false := by decide) : SAA X (.io s :: as) (.Name x pos :: es) := fun W tk =>
  PA.imp (pa_cons (pe_var hN hv hd hcd) (h2 W tk) hs) fun σ H R h => by
    obtain ⟨v, hv⟩ := h.1 s List.mem_cons_self
    exact ⟨v, hv, fun t ht => h.1 t (List.mem_cons_of_mem _ ht), tul_mono h.2 fun vs H2 k ws hw => k (v :: ws) (by unfold fillA; rw [hv, hw]; rfl)⟩
end
def backR (e1 : Ev) (s pos : Nat) (e' : Ev) (r : Ev → Res) : Res := match e'[pos]? with
  | some (some m') => if s < e1.length then r (e1.set s (some m')) else .stuck
  | _ => .stuck
def dCallIo (n : Nat) (den : Ev → Out) (as : List Arg) : Ev → Res := fun env => match evs (vparts as) env with
  | .ok xs env1 _ => (match owns xs, ioOf as with
    | some ms0, [s] => (match env1[s]? with
      | some (some m) => (match den (startE n (mergeM as ms0 m)) with
        | .ret r e' => backR env1 s (ioPos as) e' fun e2 => .ok (.own r) e2 .l
        | .nx e' => backR env1 s (ioPos as) e' fun e2 => .ok (.own (.fz .none)) e2 .l
        | .exn c e' => backR env1 s (ioPos as) e' fun e2 => .exn c e2
        | _ => .stuck)
      | _ => .stuck)
    | _, _ => .stuck)
  | .exn c e => .exn c e
  | .stuck => .stuck
section
variable {K : PySem.W.Frag} {mg : Str → Option Value} {H H' H0 H1 H2 : Hp} {G G' Gv Gv' : Addr → Prop} {O O' O0 O1 O2 F F' F1 F2 : List Addr} {Z : Addr → Prop} {env env1 env2 : Ev} {σ σ1 σ' : L2.St}
theorem fill_none : ∀ {as : List Arg} {vs ws : List V} {ms : List M} {x : M}, ioOf as = [] → fillA σ as vs = some ws → vs.length = ms.length → ws = vs ∧ mergeM as ms x = ms
  | [], [], _, ms, _, _, h, hl => by
    unfold fillA at h
    cases h
    have : ms = [] := List.length_eq_zero_iff.mp hl.symm
    subst this
    exact ⟨rfl, rfl⟩
  | [], _ :: _, _, _, _, _, h, _ => by unfold fillA at h; cases h
  | .v f :: as, [], _, _, _, _, h, _ => by unfold fillA at h; cases h
  | .v f :: as, v :: vs, ws, m :: ms, x, hi, h, hl => by
    unfold fillA at h
    obtain ⟨ws', h1, rfl⟩ := Option.map_eq_some_iff.mp h
    obtain ⟨e1, e2⟩ := fill_none (as := as) (x := x) (ms := ms) (show ioOf as = [] from hi) h1 (by simpa using hl)
    exact ⟨by rw [e1], by unfold mergeM; rw [e2]⟩
  | .v f :: as, v :: vs, ws, [], x, hi, h, hl => by simp at hl
  | .io s :: as, _, _, _, _, hi, _, _ => by unfold ioOf at hi; cases hi
theorem fill_one : ∀ {as : List Arg} {vs ws : List V} {ms : List M} {F Fi : List Addr} {v : V} {m : M} {s : Nat}, ioOf as = [s] → σ[s]? = some (some v) → fillA σ as vs = some ws → RMs K H G vs ms F → RM K H G v m Fi → F.Nodup → Fi.Nodup → (∀ a ∈ F, a ∉ Fi) →
    ∃ Fa, RMs K H G ws (mergeM as ms m) Fa ∧ Fa.Nodup ∧ (∀ a, a ∈ Fa ↔ a ∈ F ∨ a ∈ Fi) ∧ ws[ioPos as]? = some v
  | [], _, _, _, _, _, _, _, _, hi, _, _, _, _, _, _, _ => by unfold ioOf at hi; cases hi
  | .v f :: as, [], _, _, _, _, _, _, _, _, _, h, _, _, _, _, _ => by unfold fillA at h; cases h
  | .v f :: as, v0 :: vs, ws, _, _, Fi, v, m, s, hi, hs, h, .cons (F := F0) (F' := F1) (m := m0) h0 r0, hm, nd, ni, dj => by
    unfold fillA at h
    obtain ⟨ws', h1, rfl⟩ := Option.map_eq_some_iff.mp h
    obtain ⟨n1, n2, n3⟩ := List.nodup_append.mp nd
    obtain ⟨Fa, ra, na, ma, pa⟩ := fill_one (as := as) (show ioOf as = [s] from hi) hs h1 r0 hm n2 ni fun a ha => dj a (List.mem_append_right _ ha)
    refine ⟨F0 ++ Fa, .cons h0 ra, List.nodup_append.mpr ⟨n1, na, fun a ha b hb e => ?_⟩, fun a => ?_, pa⟩
    · rcases (ma b).mp hb with q | q
      · exact n3 a ha b q e
      · exact dj a (List.mem_append_left _ ha) (e ▸ q)
    · rw [List.mem_append, List.mem_append, ma, or_assoc]
  | .io t :: as, vs, ws, ms, F, Fi, v, m, s, hi, hs, h, r0, hm, nd, ni, dj => by
    unfold ioOf at hi
    obtain ⟨et, hi2⟩ := List.cons.inj hi
    subst et
    unfold fillA at h
    rw [hs] at h
    obtain ⟨ws', h1, rfl⟩ := Option.map_eq_some_iff.mp h
    obtain ⟨e1, e2⟩ := fill_none (as := as) (x := m) hi2 h1 r0.length
    subst e1
    refine ⟨Fi ++ F, ?_, List.nodup_append.mpr ⟨ni, nd, fun a ha b hb e => dj b hb (e ▸ ha)⟩, fun a => by rw [List.mem_append]; exact Or.comm, rfl⟩
    unfold mergeM
    rw [e2]
    exact .cons hm r0
theorem set_self {i : Nat} {v : V} (h : σ[i]? = some (some v)) : σ.set i (some v) = σ := by
  apply List.ext_getElem?
  intro j
  by_cases e : i = j
  · subst e
    obtain ⟨hl, _⟩ := List.getElem?_eq_some_iff.mp h
    rw [List.getElem?_set_self hl, h]
  · rw [List.getElem?_set_ne e]
/-- the lent tree comes back -/
theorem io_back {Fi Fa : List Addr} {s pos : Nat} {v : V} {m' : M} {e' : Ev} {τ τ' : L2.St} {io : Nat → Bool} (I1 : SI K (Zp (Zp Z F) Fi) O1 (env1.set s none) σ H1) (hs : σ[s]? = some (some v)) (hl : s < env1.length) (ma : ∀ a, a ∈ Fa ↔ a ∈ F ∨ a ∈ Fi) (nzF : ∀ a ∈ Fa, ¬ Z a) (om : OM H1 Fa) (st1 : Step O H O1 Fa H1)
    (hp : io pos = true) (ht : τ[pos]? = some (some v)) (held : Held io τ τ') (em : e'[pos]? = some (some m')) (I2 : SI K (Zp (fun a => Z a ∨ a ∈ O1) F2) O2 e' τ' H2) (nd2 : F2.Nodup) (nz2 : ∀ a ∈ F2, ¬ (Z a ∨ a ∈ O1)) (al2 : ∀ a ∈ F2, ∃ o, H2 a = some o) (st2 : Step Fa H1 O2 F2 H2) :
    ∃ O3, SI K (Zp Z F2) O3 (env1.set s (some m')) σ H2 ∧ Step O H O3 F2 H2 ∧ ∀ a, (¬ (Z a ∨ a ∈ O1) ∧ a ∉ O2 ∧ a ∉ F2) → (∃ o, H2 a = some o) → (¬ Z a ∧ a ∉ O3 ∧ a ∉ F2) := by
  obtain ⟨O2', v', F', hv, I3, rm, ndF, nzF', st3⟩ := I2.take em
  have ev : v' = v := by
    have := held.2 pos hp
    rw [hv, ht] at this
    cases this; rfl
  subst ev
  have alF : ∀ a ∈ F', ∃ o, H2 a = some o := fun a ha => (rm.owd a ha).imp fun o e => e.1
  have st23 : Step Fa H1 O2' (F' ++ F2) H2 := (st2.trans st3).weak fun x hx => List.mem_append.mpr ((List.mem_append.mp hx).symm)
  have I1' : SI K (Zp Z Fa) O1 (env1.set s none) σ H1 := I1.weak fun a z => by
    rcases z with z | z
    · exact .inl (.inl z)
    · rcases (ma a).mp z with z | z
      · exact .inl (.inr z)
      · exact .inr z
  have I4 : SI K (Zp Z (F' ++ F2)) O1 (env1.set s none) σ H2 := I1'.call om nzF st23 fun a ha => (List.mem_append.mp ha).elim (alF a) (al2 a)
  have dj : ∀ a ∈ F', a ∉ F2 := fun a ha z => nzF' a ha (.inr z)
  have st4 : Step O H O1 (F' ++ F2) H2 := ⟨fun a o n e => by
    obtain ⟨e1, n1, f1⟩ := st1.keep a o n e
    obtain ⟨e2, n2, f2⟩ := st23.keep a o f1 e1
    exact ⟨e2, n1, f2⟩⟩
  obtain ⟨O5, I5, st5, gg⟩ := I4.put2 (i := s) (v := v') (m := m') (by rw [List.length_set]; exact hl) (rm.imp fun a g => ⟨fun z => g.1 (.inl (.inl z)), fun z => g.1 (.inl (.inr z)), fun z => (List.mem_append.mp z).elim g.2.2 fun z => g.1 (.inr z)⟩) (List.nodup_append.mpr ⟨ndF, nd2, fun a ha b hb e => dj a ha (e ▸ hb)⟩) (fun a ha z => (List.mem_append.mp ha).elim (fun q => nzF' a q (.inl (.inl z))) fun q => nz2 a q (.inl z)) st4
  rw [List.set_set, set_self hs] at I5
  refine ⟨O5, I5, st5, fun a g ⟨o, e⟩ => gg a ⟨fun z => g.1 (.inl z), fun z => g.1 (.inr z), fun z => ?_⟩⟩
  rcases List.mem_append.mp z with z | z
  · exact (st3.keep a o g.2.1 e).2.2 z
  · exact g.2.2 z
theorem fill_len : ∀ {as : List Arg} {vs ws : List V}, fillA σ as vs = some ws → ws.length = as.length
  | [], [], _, h => by unfold fillA at h; cases h; rfl
  | [], _ :: _, _, h => by unfold fillA at h; cases h
  | .v f :: as, [], _, h => by unfold fillA at h; cases h
  | .v f :: as, v :: vs, ws, h => by
    unfold fillA at h
    obtain ⟨ws', h1, rfl⟩ := Option.map_eq_some_iff.mp h
    rw [List.length_cons, List.length_cons, fill_len (as := as) h1]
  | .io s :: as, vs, ws, h => by
    unfold fillA at h
    split at h
    · obtain ⟨ws', h1, rfl⟩ := Option.map_eq_some_iff.mp h
      rw [List.length_cons, List.length_cons, fill_len (as := as) h1]
    · cases h
def heldAll (e : Ev) (as : List Arg) : Bool := (ioOf as).all (held1 e)
/-- f(.., draw, ..): the name's list is lent -/
def dCallI (n : Nat) (den : Ev → Out) (as : List Arg) : Ev → Res := fun e => if heldAll e as = true then dCallIo n den as e else .stuck
theorem call_io {N : List Str} {io : Nat → Bool} {den : Ev → Out} {as : List Arg} {Q : VK} {W : WX} (hio : io (ioPos as) = true) (h : TU K mg W (dCallI N.length den as) σ H Q) :
    TUA K mg W as σ H fun vs H1 => SpQ K mg N io as.length den (vs ++ []) H1 Q (WE W σ) := by
  obtain ⟨Z, O, env, I, h⟩ := h
  unfold dCallI at h
  by_cases hh : heldAll env as = true
  case neg => rw [if_neg hh] at h; exact h.elim
  rw [if_pos hh] at h
  refine ⟨fun s hs => I.val (List.all_eq_true.mp hh s hs), Z, O, env, I, ?_⟩
  unfold dCallIo at h
  cases e : evs (vparts as) env with
  | stuck => rw [e] at h; exact h
  | exn c e1 => rw [e] at h; exact h
  | ok xs env1 q =>
    rw [e] at h
    simp only [] at h
    intro vs H1 p ws hw
    rw [List.append_nil]
    refine ⟨fill_len hw, ?_⟩
    obtain ⟨O1, F, I1, r1, nd, nz, st1, qu, _⟩ := p.ex
    obtain ⟨ms0, eo⟩ : ∃ ms0, owns xs = some ms0 := by
      cases eo : owns xs with
      | none => simp only [eo] at h
      | some ms0 => exact ⟨ms0, rfl⟩
    obtain ⟨s, ei⟩ : ∃ s, ioOf as = [s] := by
      cases ei : ioOf as with
      | nil => simp only [eo, ei] at h
      | cons s r =>
        cases r with
        | nil => exact ⟨s, rfl⟩
        | cons t r => simp only [eo, ei] at h
    simp only [eo, ei] at h
    obtain ⟨m, em⟩ : ∃ m, env1[s]? = some (some m) := by
      cases em : env1[s]? with
      | none => simp only [em] at h
      | some y =>
        cases y with
        | none => simp only [em] at h
        | some m => exact ⟨m, rfl⟩
    simp only [em] at h
    obtain ⟨O1', v, Fi, hv, I2, rm, ndi, nzi, st2⟩ := I1.take em
    have hl : s < env1.length := by
      obtain ⟨q, _⟩ := List.getElem?_eq_some_iff.mp em
      exact q
    have st12 : Step O H O1' (F ++ Fi) H1 := st1.trans st2
    have gF : ∀ a o, (¬ Z a ∧ a ∉ O1 ∧ a ∉ F) → H1 a = some o → (¬ Z a ∧ a ∉ O1' ∧ a ∉ F ∧ a ∉ Fi) := fun a o g e => ⟨g.1, (st2.keep a o g.2.1 e).2.1, g.2.2, (st2.keep a o g.2.1 e).2.2⟩
    have rms : RMs K H1 (fun a => ¬ Z a ∧ a ∉ O1' ∧ a ∉ F ∧ a ∉ Fi) vs ms0 F := (r1.ms eo).step (O := []) (fun _ z => nomatch z) (fun _ _ z => nomatch z) (fun _ _ z => nomatch z) (fun _ _ _ e => e) gF
    have rmi : RM K H1 (fun a => ¬ Z a ∧ a ∉ O1' ∧ a ∉ F ∧ a ∉ Fi) v m Fi := rm.imp fun a g => ⟨fun z => g.1 (.inl z), g.2.1, fun z => g.1 (.inr z), g.2.2⟩
    obtain ⟨Fa, ra, na, ma, pa⟩ := fill_one ei hv hw rms rmi nd ndi fun a ha z => nzi a z (.inr ha)
    have nzA : ∀ a ∈ Fa, ¬ Z a := fun a ha => ((ma a).mp ha).elim (nz a) fun z q => nzi a z (.inl q)
    have nOA : ∀ a ∈ Fa, a ∉ O1' := fun a ha z => I2.nz a z (((ma a).mp ha).elim (fun q => .inl (.inr q)) .inr)
    have om : OM H1 Fa := OM.of ra.owd
    have st1A : Step O H O1' Fa H1 := st12.weak fun x hx => List.mem_append.mpr ((ma x).mp hx)
    refine ⟨fun a => Z a ∨ a ∈ O1', Fa, startE N.length (mergeM as ms0 m), si_start (ra.imp fun a g => ⟨fun z => z.elim g.1 g.2.1, fun z => ((ma a).mp z).elim g.2.2.1 g.2.2.2⟩) na (fun a ha z => z.elim (nzA a ha) (nOA a ha)) (fun a z => ?_), ?_⟩
    · rcases z with z | z
      · exact I2.zt a (.inl (.inl z))
      · obtain ⟨o, e, _⟩ := I2.owd a z
        exact ⟨o, e⟩
    have ht : (L2.start N ws)[ioPos as]? = some (some v) := by
      unfold L2.start
      obtain ⟨q, _⟩ := List.getElem?_eq_some_iff.mp pa
      rw [List.getElem?_append_left (by simpa using q), List.getElem?_map, pa]; rfl
    cases ed : den (startE N.length (mergeM as ms0 m)) with
    | stuck => simp only [ed] at h
    | brk _ => simp only [ed] at h
    | ct _ => simp only [ed] at h
    | ret r e' =>
      simp only [ed, backR] at h
      obtain ⟨m', em'⟩ : ∃ m', e'[ioPos as]? = some (some m') := by
        cases em' : e'[ioPos as]? with
        | none => simp only [em'] at h
        | some y =>
          cases y with
          | none => simp only [em'] at h
          | some m' => exact ⟨m', rfl⟩
      simp only [em', if_pos hl] at h
      · skip
        intro w σ' H2 pr
        obtain ⟨O2, F2, I3, rr, nd2, nz2, st3⟩ := pr.ex
        have al2 : ∀ a ∈ F2, ∃ o, H2 a = some o := fun a ha => (rr.owd a ha).imp fun o e => e.1
        obtain ⟨O3, I4, st4, gg⟩ := io_back I2 hv hl ma nzA om st1A hio ht pr.io em' I3 nd2 nz2 al2 st3
        refine h w H2 ⟨O3, F2, I4, ?_, nd2, fun a ha z => nz2 a ha (.inl z), st4, fun z => (z rfl).elim, fun z => by cases z⟩
        simpa using RVs.own (rr.step (O := []) (G' := fun a => ¬ Z a ∧ a ∉ O3 ∧ a ∉ F2) (fun _ z => nomatch z) (fun _ _ z => nomatch z) (fun _ _ z => nomatch z) (fun _ _ _ e => e) fun a o g e => gg a g ⟨o, e⟩) .nil
    | nx e' =>
      simp only [ed, backR] at h
      obtain ⟨m', em'⟩ : ∃ m', e'[ioPos as]? = some (some m') := by
        cases em' : e'[ioPos as]? with
        | none => simp only [em'] at h
        | some y =>
          cases y with
          | none => simp only [em'] at h
          | some m' => exact ⟨m', rfl⟩
      simp only [em', if_pos hl] at h
      · skip
        intro σ' H2 pr
        obtain ⟨O2, I3, st3⟩ := pr.ex
        obtain ⟨O3, I4, st4, gg⟩ := io_back (F2 := []) I2 hv hl ma nzA om st1A hio ht pr.io em' (by rw [Zp_nil]; exact I3) List.Pairwise.nil (fun _ z => nomatch z) (fun _ z => nomatch z) st3
        exact h _ H2 ⟨O3, [], I4, .own (.fz .non) .nil, List.Pairwise.nil, (fun _ z => nomatch z), st4, fun z => (z rfl).elim, fun z => by cases z⟩
    | exn c e' =>
      simp only [ed, backR] at h
      obtain ⟨m', em'⟩ : ∃ m', e'[ioPos as]? = some (some m') := by
        cases em' : e'[ioPos as]? with
        | none => simp only [em'] at h
        | some y =>
          cases y with
          | none => simp only [em'] at h
          | some m' => exact ⟨m', rfl⟩
      simp only [em', if_pos hl] at h
      · skip
        intro cls d σ' H2 px
        obtain ⟨O2, I3, st3⟩ := px.ex
        obtain ⟨O3, I4, st4, gg⟩ := io_back (F2 := []) I2 hv hl ma nzA om st1A hio ht px.io em' (by rw [Zp_nil]; exact I3) List.Pairwise.nil (fun _ z => nomatch z) (fun _ z => nomatch z) st3
        rw [Zp_nil] at I4
        exact h cls d H2 ⟨⟨O3, I4, st4⟩, px.er⟩
end
section
variable {X : Cx} {k : Nat} {f : Addr} {fd : FuncData} {ps N : List Str} {io : Nat → Bool} {den : Ev → Out} {x : Str} {p pos : Pos} {e : Expr} {es : List Expr} {as : List Arg}
theorem se_callI (Fn : FnQ X.prog X.w X.K X.mg X.base k f fd ps N io den) (hr : Room k X.A) (hg : Gl X x) (hm : X.mg x = some (.ref f)) (hk : PySem.W.keepIn X.K (.ref f) = true) (hb : Binds X.K fd ps []) (ha : SAA X as (e :: es)) (hio : io (ioPos as) = true := by rfl) (hl : as.length = ps.length := by rfl)
    (hdb : (x == ("__debug__" : Str)) = false := by decide) (he : starEach (e :: es) X.env = (false, eval e X.env) :: starEach es X.env := by rfl) (hpl : (backTo pos (starEach es X.env)).any (·.1) = false := by rfl) :
    SE X (dCallI N.length den as) (.Call (.Name x p) (e :: es) [] pos) := fun W tk =>
  PE.imp (pe_callSD Fn hr hg hm hk hb .nil (passAt tk) (ha W tk) hdb he hpl) fun σ H Q h => by
    have := call_io (io := io) hio h
    rw [hl] at this
    exact this
end
end Q

set_option Elab.async false
set_option linter.all false
set_option maxRecDepth 100000
set_option maxHeartbeats 4000000
/-! Functions by the head's facts; raise, try. -/
namespace Q
open PySem PySem.Spec PyProof.Rows L2

theorem fn_mkD {P : Program} {w : World} {K : PySem.W.Frag} {mg : Str → Option Value} {base : Heap} {x qual : Str} {params : Arguments} {stmts : List Stmt} {scope : Scope} {f : Addr} {fd : FuncData} {N ps : List Str} {k : Nat} {io : Nat → Bool} {den : Ev → Out} (F : FunD K x qual params stmts scope [] [] f fd) (S : FnScope N ps scope)
    (body : ∀ (cdv : Value) (A : Around) (outer : List Env) (s : Shared) (H : Hp) (E : XK), Room k (A.deeper (envOfC qual scope s.heap.objs.size f cdv)) → SSs (cxOf (L2.CX P w) P w K mg base N qual scope f cdv A outer s H E) io den stmts) :
    FnQ P w K mg base (k + 1) f fd ps N io den :=
  F.ok S (fun _ _ _ _ h => h.1) fun cdv A outer s H vs Q E hr hsp => ⟨_, body cdv A outer s H E hr (WF E) (takes_of rfl rfl rfl rfl), hsp.2⟩

/-! ### raise X("..") -/
def dRaise (c : Str) : Ev → Out := fun env => .exn ⟨c, []⟩ env
section
variable {X : Cx} {io : Nat → Bool} {a b : Ev → Out} {f g : Ev → Res} {s : Stmt} {ss : List Stmt} {e : Expr} {pos pos' np : Pos}
theorem ss_raise {C : Addr} {x m : Str} {j : Nat} {p p2 : Pos} (hc : X.calm = true) (q : PySem.W.excIn X.K C He.veBase "ValueError.__new__" = true) (gC : X.mg x = some (.ref C)) (kC : PySem.W.keepIn X.K (.ref C) = true) (s1 : PySem.W.subIn X.K (.ref C) (.type "BaseException") = some true) (s2 : PySem.W.typeIn X.K (.ref C) = some (.type "type")) (hg : Gl X x)
    (hdb : (x == ("__debug__" : Str)) = false := by decide) : SS X io (dRaise x) (.Raise (some (.Call (.Name x p) [.Constant (.str m) j p2] [] pos)) none pos') := fun W tk =>
  PS.imp (ps_raise hc tk (pmk_own F.excBase_ValueError q gC kC (raises_own s1 s2) hg hdb)) fun D σ H ⟨Z, O, env, I, h⟩ =>
    h _ _ σ H ⟨⟨O, I, Step.refl⟩, Held.refl, ⟨C, rfl, gC⟩, .inl ⟨rfl, rfl⟩⟩

/-! ### try -/
/-- which exceptions the clause takes -/
abbrev Takers := List (Str × Bool)
def TakerOk (K : PySem.W.Frag) (mg : Str → Option Value) (t : Takers) (c : Value) : Prop := ∀ p ∈ t, ∀ C, mg p.1 = some (.ref C) → PySem.W.exmOne K (.ref C) c = some p.2
/-- a suite raises nothing -/
def noX : Out → Out
  | .exn _ _ => .stuck
  | r => r
theorem EndS.noW {K : PySem.W.Frag} {mg : Str → Option Value} {W W' : WX} {D : Ends} {Z : Addr → Prop} {O : List Addr} {σ : L2.St} {H : Hp} {r : Out} (h : EndS K mg W io D Z O σ H (noX r)) : EndS K mg W' io D Z O σ H r := by
  cases r with
  | exn c e => exact h.elim
  | nx e => exact h
  | ret m e => exact h
  | brk e => exact h
  | ct e => exact h
  | stuck => exact h
/-- try: body, except x: suite -/
def dTry (b : Ev → Out) (hs : List (Takers × (Ev → Out))) : Ev → Out := fun env => match b env with
  | .exn c e => go c e hs
  | r => r
where
  go (c : Exn) (e : Ev) : List (Takers × (Ev → Out)) → Out
  | [] => .exn c e
  | (t, s) :: r => match t.lookup c.cls with
    | some true => noX (s e)
    | some false => go c e r
    | none => .stuck
theorem lookup_mem' {c : Str} {b : Bool} : ∀ {t : Takers}, t.lookup c = some b → (c, b) ∈ t
  | [], h => by cases h
  | (d, b') :: r, h => by
    unfold List.lookup at h
    cases q : (c == d) with
    | true =>
      simp only [q] at h
      cases h
      rw [beq_iff_eq.mp q]
      exact List.mem_cons_self
    | false =>
      simp only [q] at h
      exact List.mem_cons_of_mem _ (lookup_mem' h)
theorem EndS.wmap {K : PySem.W.Frag} {mg : Str → Option Value} {W W' : WX} {D : Ends} {Z : Addr → Prop} {O : List Addr} {σ : L2.St} {H : Hp} {r : Out} (h : EndS K mg W io D Z O σ H r) (hw : ∀ c e, r = .exn c e → ∀ cls d σ' H', PostXS K mg Z O io σ H c e cls d σ' H' → W' cls d σ' H') : EndS K mg W' io D Z O σ H r := by
  cases r with
  | exn c e => exact hw c e rfl
  | nx e => exact h
  | ret m e => exact h
  | brk e => exact h
  | ct e => exact h
  | stuck => exact h
theorem tus_try {K : PySem.W.Frag} {mg : Str → Option Value} {W W' : WX} {b : Ev → Out} {hs : List (Takers × (Ev → Out))} {D : Ends} {σ : L2.St} {H : Hp} (h : TUS K mg W io (dTry b hs) D σ H)
    (hw : ∀ Z O env c e, SI K Z O env σ H → EndS K mg W io D Z O σ H (dTry.go c e hs) → ∀ cls d σ' H', PostXS K mg Z O io σ H c e cls d σ' H' → W' cls d σ' H') : TUS K mg W' io b D σ H := by
  obtain ⟨Z, O, env, I, h⟩ := h
  refine ⟨Z, O, env, I, ?_⟩
  unfold dTry at h
  cases e : b env with
  | exn c e1 =>
    rw [e] at h
    exact fun cls d σ' H' p => hw Z O env c e1 I h cls d σ' H' p
  | nx e1 => rw [e] at h; exact h
  | ret m e1 => rw [e] at h; exact h
  | brk e1 => rw [e] at h; exact h
  | ct e1 => rw [e] at h; exact h
  | stuck => rw [e] at h; exact h
theorem taker_of {K : PySem.W.Frag} {mg : Str → Option Value} {H : Hp} {c : Exn} {cls : Value} {d : Option Addr} {t : Takers} {cl : Value} {v : Bool} (r : ExnR K mg H c cls d) (ok : TakerOk K mg t cl) (h : t.lookup c.cls = some v) : PySem.W.exmOne K cls cl = some v := by
  obtain ⟨C, rfl, hm⟩ := r.cls
  exact ok _ (lookup_mem' h) C hm
theorem ss_try1 {x : Str} {c : Value} {t : Takers} {b₀ : Stmt} {suite body : List Stmt} (hs : X.stack = X.env :: X.outer) (hf : X.env.frame = some X.env.locals) (hc : Names X x c) (tk : TakerOk X.K X.mg t c)
    (hb : ∀ (pn : List (Addr × Obj)) (xe : Value → Shared → Prop), PassesOwn (model X.prog X.w) X.A X.env xe → SSs (X.tr pn xe) io b body)
    (hsu : ∀ (p : Addr × Obj) (pn : List (Addr × Obj)), SSs (X.suite p.1 (p :: pn)) io a (b₀ :: suite)) : SS X io (dTry b [(t, a)]) (.Try body [.ExceptHandler (some (.Name x np)) none (b₀ :: suite) pos'] [] [] pos) := fun W tW =>
  PS.imp (ps_try_only (tb := fun W => TUS X.K X.mg W io b) (ts := fun _ _ _ => TUS X.K X.mg W0 io a) hs hf hc tW (fun W pn xe tk hp => hb pn xe hp W tk) fun av oe cls d pn hz hv => hsu (av, oe) pn W0 takes0) fun D σ H h => tus_try h fun Z O env c0 e I h cls d σ' H' p => by
    unfold dTry.go at h
    obtain ⟨O', I', st⟩ := p.ex
    cases el : t.lookup c0.cls with
    | none => rw [el] at h; exact h.elim
    | some v =>
      rw [el] at h
      refine ⟨v, taker_of p.er tk el, fun e1 av hav => ?_, fun e1 => ?_⟩
      · subst e1
        exact ⟨Z, O', e, I', EndS.noW (h.after st p.io)⟩
      · subst e1
        exact h cls d σ' H' p
/-- several clauses -/
inductive HdsQ (X : Cx) (io : Nat → Bool) : List ExceptHandler → List (Value × (Addr → Value → Option Addr → TS)) → List (Takers × (Ev → Out)) → Prop
  | nil : HdsQ X io [] [] []
  | cons {x : Str} {c : Value} {t : Takers} {a : Ev → Out} {b₀ : Stmt} {suite : List Stmt} {np pos' : Pos} {hds : List ExceptHandler} {l : List (Value × (Addr → Value → Option Addr → TS))} {hs : List (Takers × (Ev → Out))} (hc : Names X x c) (tk : TakerOk X.K X.mg t c)
      (hsu : ∀ (p : Addr × Obj) (pn : List (Addr × Obj)), SSs (X.suite p.1 (p :: pn)) io a (b₀ :: suite)) (r : HdsQ X io hds l hs) :
      HdsQ X io (.ExceptHandler (some (.Name x np)) none (b₀ :: suite) pos' :: hds) ((c, fun _ _ _ => TUS X.K X.mg W0 io a) :: l) ((t, a) :: hs)
theorem HdsQ.ok {hds : List ExceptHandler} {l : List (Value × (Addr → Value → Option Addr → TS))} {hs : List (Takers × (Ev → Out))} (h : HdsQ X io hds l hs) : HdsOk X hds l := by
  induction h with
  | nil => exact .nil
  | cons hc tk hsu r ih => exact .cons hc (fun av oe cls d pn hz hv => hsu (av, oe) pn W0 takes0) ih
theorem HdsQ.go {hds : List ExceptHandler} {l : List (Value × (Addr → Value → Option Addr → TS))} {hs : List (Takers × (Ev → Out))} (h : HdsQ X io hds l hs) {W : WX} {D : Ends} {Z : Addr → Prop} {O : List Addr} {σ σ' : L2.St} {H H' : Hp} {c : Exn} {e : Ev} {cls : Value} {d : Option Addr}
    (p : PostXS X.K X.mg Z O io σ H c e cls d σ' H') (hw : EndS X.K X.mg W io D Z O σ H (dTry.go c e hs)) : wMany X.K W D l cls d σ' H' := by
  obtain ⟨O', I', st⟩ := p.ex
  induction h with
  | nil => exact hw cls d σ' H' p
  | cons hc tk hsu r ih =>
    rename_i t a b₀ suite np pos' hds l hs
    unfold dTry.go at hw
    cases el : t.lookup c.cls with
    | none => rw [el] at hw; exact hw.elim
    | some v =>
      rw [el] at hw
      refine ⟨v, taker_of p.er tk el, fun e1 av hav => ?_, fun e1 => ?_⟩
      · subst e1
        exact ⟨Z, O', e, I', EndS.noW (hw.after st p.io)⟩
      · subst e1
        exact ih hw
theorem ss_tryN {h₀ : ExceptHandler} {hds : List ExceptHandler} {l : List (Value × (Addr → Value → Option Addr → TS))} {hls : List (Takers × (Ev → Out))} {body : List Stmt} (hs : X.stack = X.env :: X.outer) (hf : X.env.frame = some X.env.locals)
    (hb : ∀ (pn : List (Addr × Obj)) (xe : Value → Shared → Prop), PassesOwn (model X.prog X.w) X.A X.env xe → SSs (X.tr pn xe) io b body) (hh : HdsQ X io (h₀ :: hds) l hls) : SS X io (dTry b hls) (.Try body (h₀ :: hds) [] [] pos) := fun W tW =>
  PS.imp (ps_try_many (tb := fun W => TUS X.K X.mg W io b) hs hf tW (fun W pn xe tk hp => hb pn xe hp W tk) hh.ok) fun D σ H h => tus_try h fun Z O env c0 e I h cls d σ' H' p => hh.go p h
end
end Q

set_option Elab.async false
set_option linter.all false
set_option maxRecDepth 100000
set_option maxHeartbeats 4000000
/-! enumerate, zip. -/
namespace Q
open PySem PySem.Spec PyProof.Rows L2

/-- enumerate of a tuple -/
def EnT (K : PySem.W.Frag) (a : Addr) : It :=
  ⟨fun i H => ∃ (ws : List V) (w : V), SqT K H a ws ∧ ws[i]? = some w, fun i H v H2 => ∃ T w o, v = .ref T ∧ H T = none ∧ H2 = upd H T (TF o [.int (i : Nat), w]) ∧ o.dict = none ∧ ∀ ws, SqT K H a ws → ws[i]? = some w, fun i H => ∃ ws : List V, SqT K H a ws ∧ ws.length = i⟩
/-- enumerate of a list -/
def EnL (K : PySem.W.Frag) (a : Addr) : It :=
  ⟨fun i H => ∃ (ws : List V) (w : V), SqL K H a ws ∧ ws[i]? = some w, fun i H v H2 => ∃ T w o, v = .ref T ∧ H T = none ∧ H2 = upd H T (TF o [.int (i : Nat), w]) ∧ o.dict = none ∧ ∀ ws, SqL K H a ws → ws[i]? = some w, fun i H => ∃ ws : List V, SqL K H a ws ∧ ws.length = i⟩
theorem new_enumT {v : Value} {ob : Obj} {Hh : Heap → Prop} (B : Begins v ob Hh) :
    Meets (Builtin.«enumerate.__new__» ⟨[.type "enumerate", v], []⟩) (fun _ R s => Hh s.heap ∧
      R (.ok (.ret (.ref (s.heap.push ob).objs.size))) { s with heap := (s.heap.push ob).push { cls := .type "enumerate", data := .fields #[.none, .bool false, .ref s.heap.objs.size, rawInt 0, .none, .none] } }) :=
  .of_wp fun prog w A R s hh => by
    obtain ⟨h0, gs, dr, tk, os⟩ := s
    obtain ⟨hb, hh⟩ := hh
    have hsub := sub_enumerate
    have it1 : ∀ {A2 : Around} {E2 : Value → Shared → Prop} {Q2 : Value → Shared → Prop}, Q2 (.ref h0.objs.size) ⟨h0.push ob, gs, dr, tk, os⟩ → wpAny (model prog w) A2 (pyIter v) Q2 E2 ⟨h0, gs, dr, tk, os⟩ :=
      fun q2 => B.iter prog w _ _ ⟨h0, gs, dr, tk, os⟩ _ hb q2
    wp_walk using it1
    refine wpAny_stack_any fun st2 => wpAny_pure ?_
    split
    · rename_i cc _ _ _ _ _
      cases (cc == Value.type "enumerate")
      · wp_walk using it1
        exact ⟨_, rfl, hh⟩
      · wp_walk using it1
        exact ⟨_, rfl, hh⟩
    · wp_walk using it1
      exact ⟨_, rfl, hh⟩
theorem call_enumB {prog : Program} {w : World} {A : Around} {E : Value → Shared → Prop} {s : Shared} {v : Value} {ob : Obj} {Hh : Heap → Prop} {Q : Value → Shared → Prop} (B : Begins v ob Hh) (hb : Hh s.heap)
    (k : ∀ h2, IsEnum h2 (s.heap.objs.size + 1) s.heap.objs.size 0 .none → h2.get? s.heap.objs.size = some ob → (∀ c o, s.heap.get? c = some o → h2.get? c = some o) → Q (.ref (s.heap.objs.size + 1)) { s with heap := h2 }) :
    wpAny (model prog w) A (call (.type "enumerate") [v]) Q E s := by
  refine callType_new F.called_enumerate (by decide) (F.typeCall_enumerate_1 _) (F.newCall_enumerate_1 _) (fun obj => F.args_object_init_2 obj _) F.entry_enumerate_new (new_enumT B) ⟨hb, ?_⟩
  have sz : (s.heap.push ob).objs.size = s.heap.objs.size + 1 := Heap.size_push ..
  show _ ∧ _
  rw [sz]
  have en : IsEnum ((s.heap.push ob).push { cls := .type "enumerate", data := .fields #[.none, .bool false, .ref s.heap.objs.size, rawInt 0, .none, .none] }) (s.heap.objs.size + 1) s.heap.objs.size 0 .none := by
    have g := Heap.get?_push_size (s.heap.push ob) (o := { cls := .type "enumerate", data := .fields #[.none, .bool false, .ref s.heap.objs.size, rawInt 0, .none, .none] }) rfl
    rw [sz] at g; exact g
  exact ⟨⟨_, en, rfl⟩, k _ en (Heap.get?_push_of_some _ (Heap.get?_push_size _ B.free)) fun c o x => Heap.get?_push_of_some _ (Heap.get?_push_of_some _ x)⟩
theorem turn_enumT {P : Program} {w : World} {K : PySem.W.Frag} {elts : List Expr} {kk : Nat} {tpos : Pos} (a en it : Addr) :
    Turn P w K (.Tuple elts kk tpos) (EnT K a) [en, it] en (fun i h => (∃ old, IsEnum h en it ((i : Nat) : Int) old) ∧ h.IsTupleIter it a i ∧ en ≠ it) where
  mem := by simp
  obj := fun i h st b hb => by
    obtain ⟨⟨old, hen⟩, ⟨oi, hi, hci, hdi⟩, _⟩ := st
    have hb2 : b = en ∨ b = it := by simpa using hb
    rcases hb2 with z | z
    · rw [z]; exact ⟨_, hen, fun v q => nomatch q⟩
    · rw [z]; exact ⟨oi, hi, fun v q => by rw [hdi] at q; cases q⟩
  keep := fun i h h2 st kp => let ⟨⟨old, hen⟩, hi, hne⟩ := st; ⟨⟨old, kp en (by simp) _ hen⟩, hi.at fun o q => kp it (by simp) o q, hne⟩
  item := by
    intro X hP hw hK hc i pins s σ H E I hf st hg
    subst hP hw hK
    obtain ⟨⟨old, hen⟩, hit, hne⟩ := st
    obtain ⟨ws, x, hq, hx⟩ := hg
    obtain ⟨its, rv, tp, hz⟩ := I.tuple hq
    obtain ⟨u, hu, ru⟩ := rv.get hx
    have tpl : s.heap.IsTuple a its.toArray := tp
    have lt_e : en < s.heap.objs.size := Heap.lt_size hen
    have lt_i : it < s.heap.objs.size := by obtain ⟨_, q, _⟩ := hit; exact Heap.lt_size q
    obtain ⟨fa0, _⟩ := hf it (by simp)
    have ait : a ≠ it := fun z => by
      obtain ⟨oi, hi, hci, _⟩ := hit
      obtain ⟨oa, ha, hca, _⟩ := tpl
      rw [z, hi] at ha; cases ha
      rw [hci] at hca; exact absurd (Value.type.inj hca) (by decide)
    have aen : en ∉ [it, a] := fun z => by
      rcases List.mem_cons.mp z with z | z
      · exact hne z
      · rw [List.mem_singleton.mp z] at hen
        obtain ⟨oa, ha, hca, _⟩ := tpl
        rw [hen] at ha; cases ha
        exact absurd (Value.type.inj hca) (by decide)
    have hA : X.A.in1.handled = none := I.ok.hd hc
    have D := Draws.tuple (prog := X.prog) (w := X.w) (A := X.A.in1) hA it a ait its.toArray
    have hlt : i < its.toArray.size := by
      obtain ⟨q, _⟩ := List.getElem?_eq_some_iff.mp hu
      simpa using q
    refine wpAny_pyNext_enum_itemD D hen ⟨hit, tpl⟩ hlt hne aen fun y h2 tk hy eo st2 gT sz2 kp => ?_
    have hyu : y = u := by
      have q : its.toArray[i]? = some u := by simpa using hu
      rw [q] at hy; exact (Option.some.inj hy).symm
    subst hyu
    refine ⟨_, rfl, wpAny_letOwnedTupleGo_enum (s := { s with heap := h2, toks := tk + 1 }) eo fun h3 en3 sb => ?_⟩
    have gT3 : h3.get? s.heap.objs.size = some { cls := .type "tuple", data := .seq #[.int i tk, y] } := (sb.2 _ (Nat.ne_of_gt lt_e)).trans gT
    have ob : ObjOk X.prog X.w (upd H s.heap.objs.size (TF { cls := .type "tuple", data := .seq #[.int i tk, y] } [.int (i : Nat), x])) h3 s.heap.objs.size (TF { cls := .type "tuple", data := .seq #[.int i tk, y] } [.int (i : Nat), x]) :=
      ⟨gT3, by show 2 ≤ sizeLine; decide, [.int i tk, y], .cons ⟨_, rfl⟩ (.cons ru .nil), ⟨_, gT3, rfl, _, rfl⟩⟩
    have J : Inv X pins σ (upd H s.heap.objs.size (TF { cls := .type "tuple", data := .seq #[.int i tk, y] } [.int (i : Nat), x])) { s with heap := h3, toks := tk + 1 } :=
      I.turnedNew (ch := [en, it]) (fun b o hb q => (sb.2 b (fun z => hb (by simp [z]))).trans (kp b o (fun z => hb (by simp [z])) (fun z => hb (by simp [z])) q)) hf (Nat.le_refl _) ob
    refine ⟨.ref s.heap.objs.size, _, J, rfl, ⟨_, x, _, rfl, I.hok.fresh (Nat.le_refl _), rfl, rfl, fun ys hy => by rw [I.tuple_inj hy hq]; exact hx⟩, ⟨⟨y, ?_⟩, st2.1.at fun o q => (sb.2 it (Ne.symm hne)).trans q, hne⟩, fun b hb => ?_⟩
    · have e1 : ((i + 1 : Nat) : Int) = (i : Int) + 1 := by omega
      rw [e1]; exact en3
    · have lb : b < s.heap.objs.size := by
        have hb2 : b = en ∨ b = it := by simpa using hb
        rcases hb2 with z | z
        · rw [z]; exact lt_e
        · rw [z]; exact lt_i
      rw [upd_ne (Nat.ne_of_lt lb)]
      exact (hf b hb).1
  done := by
    intro X hP hw hK hc i pins s σ H E I hf st hg
    subst hP hw hK
    obtain ⟨⟨old, hen⟩, hit, hne⟩ := st
    obtain ⟨ws, hq, hx⟩ := hg
    obtain ⟨its, rv, tp, hz⟩ := I.tuple hq
    have tpl : s.heap.IsTuple a its.toArray := tp
    obtain ⟨f0, f1, f2, f3, f4, f5⟩ := hf it (by simp)
    have ait : a ≠ it := fun z => by
      obtain ⟨oi, hi, hci, _⟩ := hit
      obtain ⟨oa, ha, hca, _⟩ := tpl
      rw [z, hi] at ha; cases ha
      rw [hci] at hca; exact absurd (Value.type.inj hca) (by decide)
    have hA : X.A.in1.handled = none := I.ok.hd hc
    have D := Draws.tuple (prog := X.prog) (w := X.w) (A := X.A.in1) hA it a ait its.toArray
    have hn : its.toArray.size = i := by have := rv.length; simp; omega
    exact wpAny_pyNext_enum_endD D hen ⟨hn ▸ hit, tpl⟩ fun h2 eb => ⟨rfl, I.turned (t' := s.toks) (fun b o hb q => eb b o hb q) f0 f1 f3 f4 f5⟩
  self := fun A i s Q E st h => let ⟨⟨_, hen⟩, _⟩ := st; wpAny_pyIter_enum hen h
theorem pi_enumT {X : Cx} {e : Expr} {ta : TA} {p pos tpos : Pos} {elts : List Expr} {kk : Nat} (hg : Gl X "enumerate") (hm : X.mg "enumerate" = none) (ha : PA X [e] ta) (hs : starEach [e] X.env = [(false, eval e X.env)] := by rfl) :
    PI X (.Tuple elts kk tpos) (.Call (.Name "enumerate" p) [e] [] pos) (fun σ H R => ta σ H fun vs H1 => ∃ a ws, vs = [.ref a] ∧ SqT X.K H1 a ws ∧ R (EnT X.K a) H1) := by
  refine ⟨fun pins s σ H R I hh => ?_⟩
  refine Call_ (ld_blt I hg hm boot_enumerate (PyProof.Rows.callWith_type1 (thn (ha.run pos pins s σ H _ I hh) fun us s1 ⟨vs, H1, J, r1, q1⟩ => ?_) hs rfl))
  obtain ⟨a, ws, rfl, hq, q⟩ := q1
  cases r1 with
  | cons r rr =>
    cases rr
    cases r
    obtain ⟨its, rv, tp, hz⟩ := J.tuple hq
    have tpl : s1.heap.IsTuple a its.toArray := tp
    refine call_enumB (begins_tuple a its.toArray) tpl fun h2 en hi kp => wpAny_pyIter_enum en ?_
    have J2 : Inv X pins σ H1 { s1 with heap := h2 } := J.kept (t' := s1.toks) kp
    refine ⟨s1.heap.objs.size + 1, [s1.heap.objs.size + 1, s1.heap.objs.size], _, _, H1, rfl, J2, turn_enumT a (s1.heap.objs.size + 1) s1.heap.objs.size, ⟨⟨.none, en⟩, ⟨_, hi, rfl, rfl⟩, Nat.succ_ne_self _⟩, fun b hb => ?_, q⟩
    have hb2 : b = s1.heap.objs.size + 1 ∨ b = s1.heap.objs.size := by simpa using hb
    have le : s1.heap.objs.size ≤ b := by
      rcases hb2 with z | z
      · rw [z]; exact Nat.le_add_right _ _
      · rw [z]; exact Nat.le_refl _
    exact J.fpOk le (J.hok.fresh le)
theorem turn_enumL {P : Program} {w : World} {K : PySem.W.Frag} {elts : List Expr} {kk : Nat} {tpos : Pos} (a en it : Addr) :
    Turn P w K (.Tuple elts kk tpos) (EnL K a) [en, it] en (fun i h => (∃ old, IsEnum h en it ((i : Nat) : Int) old) ∧ h.IsListIter it a i ∧ en ≠ it) where
  mem := by simp
  obj := fun i h st b hb => by
    obtain ⟨⟨old, hen⟩, ⟨oi, hi, hci, hdi⟩, _⟩ := st
    have hb2 : b = en ∨ b = it := by simpa using hb
    rcases hb2 with z | z
    · rw [z]; exact ⟨_, hen, fun v q => nomatch q⟩
    · rw [z]; exact ⟨oi, hi, fun v q => by rw [hdi] at q; cases q⟩
  keep := fun i h h2 st kp => let ⟨⟨old, hen⟩, hi, hne⟩ := st; ⟨⟨old, kp en (by simp) _ hen⟩, hi.at fun o q => kp it (by simp) o q, hne⟩
  item := by
    intro X hP hw hK hc i pins s σ H E I hf st hg
    subst hP hw hK
    obtain ⟨⟨old, hen⟩, hit, hne⟩ := st
    obtain ⟨ws, x, hq, hx⟩ := hg
    obtain ⟨its, rv, tp, hz⟩ := I.list hq
    obtain ⟨u, hu, ru⟩ := rv.get hx
    have tpl : s.heap.IsList a its.toArray := tp.isList
    have lt_e : en < s.heap.objs.size := Heap.lt_size hen
    have lt_i : it < s.heap.objs.size := by obtain ⟨_, q, _⟩ := hit; exact Heap.lt_size q
    obtain ⟨fa0, _⟩ := hf it (by simp)
    have ait : a ≠ it := fun z => by
      obtain ⟨oi, hi, hci, _⟩ := hit
      obtain ⟨oa, ha, hca, _⟩ := tpl
      rw [z, hi] at ha; cases ha
      rw [hci] at hca; exact absurd (Value.type.inj hca) (by decide)
    have aen : en ∉ [it, a] := fun z => by
      rcases List.mem_cons.mp z with z | z
      · exact hne z
      · rw [List.mem_singleton.mp z] at hen
        obtain ⟨oa, ha, hca, _⟩ := tpl
        rw [hen] at ha; cases ha
        exact absurd (Value.type.inj hca) (by decide)
    have hA : X.A.in1.handled = none := I.ok.hd hc
    have D := Draws.list (prog := X.prog) (w := X.w) (A := X.A.in1) hA it a ait its.toArray
    have hlt : i < its.toArray.size := by
      obtain ⟨q, _⟩ := List.getElem?_eq_some_iff.mp hu
      simpa using q
    refine wpAny_pyNext_enum_itemD D hen ⟨hit, tpl⟩ hlt hne aen fun y h2 tk hy eo st2 gT sz2 kp => ?_
    have hyu : y = u := by
      have q : its.toArray[i]? = some u := by simpa using hu
      rw [q] at hy; exact (Option.some.inj hy).symm
    subst hyu
    refine ⟨_, rfl, wpAny_letOwnedTupleGo_enum (s := { s with heap := h2, toks := tk + 1 }) eo fun h3 en3 sb => ?_⟩
    have gT3 : h3.get? s.heap.objs.size = some { cls := .type "tuple", data := .seq #[.int i tk, y] } := (sb.2 _ (Nat.ne_of_gt lt_e)).trans gT
    have ob : ObjOk X.prog X.w (upd H s.heap.objs.size (TF { cls := .type "tuple", data := .seq #[.int i tk, y] } [.int (i : Nat), x])) h3 s.heap.objs.size (TF { cls := .type "tuple", data := .seq #[.int i tk, y] } [.int (i : Nat), x]) :=
      ⟨gT3, by show 2 ≤ sizeLine; decide, [.int i tk, y], .cons ⟨_, rfl⟩ (.cons ru .nil), ⟨_, gT3, rfl, _, rfl⟩⟩
    have J : Inv X pins σ (upd H s.heap.objs.size (TF { cls := .type "tuple", data := .seq #[.int i tk, y] } [.int (i : Nat), x])) { s with heap := h3, toks := tk + 1 } :=
      I.turnedNew (ch := [en, it]) (fun b o hb q => (sb.2 b (fun z => hb (by simp [z]))).trans (kp b o (fun z => hb (by simp [z])) (fun z => hb (by simp [z])) q)) hf (Nat.le_refl _) ob
    refine ⟨.ref s.heap.objs.size, _, J, rfl, ⟨_, x, _, rfl, I.hok.fresh (Nat.le_refl _), rfl, rfl, fun ys hy => by rw [I.list_inj hy hq]; exact hx⟩, ⟨⟨y, ?_⟩, st2.1.at fun o q => (sb.2 it (Ne.symm hne)).trans q, hne⟩, fun b hb => ?_⟩
    · have e1 : ((i + 1 : Nat) : Int) = (i : Int) + 1 := by omega
      rw [e1]; exact en3
    · have lb : b < s.heap.objs.size := by
        have hb2 : b = en ∨ b = it := by simpa using hb
        rcases hb2 with z | z
        · rw [z]; exact lt_e
        · rw [z]; exact lt_i
      rw [upd_ne (Nat.ne_of_lt lb)]
      exact (hf b hb).1
  done := by
    intro X hP hw hK hc i pins s σ H E I hf st hg
    subst hP hw hK
    obtain ⟨⟨old, hen⟩, hit, hne⟩ := st
    obtain ⟨ws, hq, hx⟩ := hg
    obtain ⟨its, rv, tp, hz⟩ := I.list hq
    have tpl : s.heap.IsList a its.toArray := tp.isList
    obtain ⟨f0, f1, f2, f3, f4, f5⟩ := hf it (by simp)
    have ait : a ≠ it := fun z => by
      obtain ⟨oi, hi, hci, _⟩ := hit
      obtain ⟨oa, ha, hca, _⟩ := tpl
      rw [z, hi] at ha; cases ha
      rw [hci] at hca; exact absurd (Value.type.inj hca) (by decide)
    have hA : X.A.in1.handled = none := I.ok.hd hc
    have D := Draws.list (prog := X.prog) (w := X.w) (A := X.A.in1) hA it a ait its.toArray
    have hn : its.toArray.size = i := by have := rv.length; simp; omega
    exact wpAny_pyNext_enum_endD D hen ⟨hn ▸ hit, tpl⟩ fun h2 eb => ⟨rfl, I.turned (t' := s.toks) (fun b o hb q => eb b o hb q) f0 f1 f3 f4 f5⟩
  self := fun A i s Q E st h => let ⟨⟨_, hen⟩, _⟩ := st; wpAny_pyIter_enum hen h
theorem pi_enumL {X : Cx} {e : Expr} {ta : TA} {p pos tpos : Pos} {elts : List Expr} {kk : Nat} (hg : Gl X "enumerate") (hm : X.mg "enumerate" = none) (ha : PA X [e] ta) (hs : starEach [e] X.env = [(false, eval e X.env)] := by rfl) :
    PI X (.Tuple elts kk tpos) (.Call (.Name "enumerate" p) [e] [] pos) (fun σ H R => ta σ H fun vs H1 => ∃ a ws, vs = [.ref a] ∧ SqL X.K H1 a ws ∧ R (EnL X.K a) H1) := by
  refine ⟨fun pins s σ H R I hh => ?_⟩
  refine Call_ (ld_blt I hg hm boot_enumerate (PyProof.Rows.callWith_type1 (thn (ha.run pos pins s σ H _ I hh) fun us s1 ⟨vs, H1, J, r1, q1⟩ => ?_) hs rfl))
  obtain ⟨a, ws, rfl, hq, q⟩ := q1
  cases r1 with
  | cons r rr =>
    cases rr
    cases r
    obtain ⟨its, rv, tp, hz⟩ := J.list hq
    have tpl : s1.heap.IsList a its.toArray := tp.isList
    refine call_enumB (begins_list a its.toArray) tpl fun h2 en hi kp => wpAny_pyIter_enum en ?_
    have J2 : Inv X pins σ H1 { s1 with heap := h2 } := J.kept (t' := s1.toks) kp
    refine ⟨s1.heap.objs.size + 1, [s1.heap.objs.size + 1, s1.heap.objs.size], _, _, H1, rfl, J2, turn_enumL a (s1.heap.objs.size + 1) s1.heap.objs.size, ⟨⟨.none, en⟩, ⟨_, hi, rfl, rfl⟩, Nat.succ_ne_self _⟩, fun b hb => ?_, q⟩
    have hb2 : b = s1.heap.objs.size + 1 ∨ b = s1.heap.objs.size := by simpa using hb
    have le : s1.heap.objs.size ≤ b := by
      rcases hb2 with z | z
      · rw [z]; exact Nat.le_add_right _ _
      · rw [z]; exact Nat.le_refl _
    exact J.fpOk le (J.hok.fresh le)
/-! ### the pairs of place and item -/
def enD (ds : List PyData) : List PyData := ds.zipIdx.map fun p => .tuple [.int (p.2 : Nat), p.1]
theorem enD_get {ds : List PyData} {i : Nat} {d : PyData} (h : (enD ds)[i]? = some d) : ∃ x, ds[i]? = some x ∧ d = .tuple [.int (i : Nat), x] := by
  unfold enD at h
  rw [List.getElem?_map] at h
  obtain ⟨p, hp, rfl⟩ := Option.map_eq_some_iff.mp h
  rw [List.getElem?_zipIdx] at hp
  obtain ⟨x, hx, rfl⟩ := Option.map_eq_some_iff.mp hp
  exact ⟨x, hx, by simp⟩
theorem enD_len (ds : List PyData) : (enD ds).length = ds.length := by simp [enD]
section
variable {K : PySem.W.Frag}
theorem pair_new {H : Hp} {G : Addr → Prop} {T : Addr} {x y : V} {a b : PyData} {ob : Obj} (hn : H T = none) (ho : ob.dict = none) (r1 : RF K H G x a) (r2 : RF K H G y b) : (∀ c o, H c = some o → upd H T (TF ob [x, y]) c = some o) ∧ RF K (upd H T (TF ob [x, y])) G (.ref T) (.tuple [a, b]) := by
  have k := upd_keep (o := TF ob [x, y]) hn
  exact ⟨k, .tup (.inl ⟨ob, upd_same, ho⟩) (.cons (r1.grow k) (.cons (r2.grow k) .nil))⟩
theorem live_enL {a : Addr} {xs : List V} {ds : List PyData} (hl : xs.length = ds.length) : Live K (EnL K a) (enD ds) (fun G H => L2.Rd H a (.lst xs) ∧ G a ∧ RFs K H G xs ds) where
  goes := fun i H G hi ⟨h, _, _⟩ => ⟨xs, xs[i]'(by rw [enD_len] at hi; omega), .inl h, List.getElem?_eq_getElem _⟩
  stops := fun H G ⟨h, _, _⟩ => ⟨xs, .inl h, by rw [enD_len]; omega⟩
  yields := fun i H x H2 G d hd ⟨h, _, r⟩ y => by
    obtain ⟨T, w, ob, rfl, hn, rfl, ho, hw⟩ := y
    obtain ⟨d', hd', rfl⟩ := enD_get hd
    obtain ⟨v, e1, r1⟩ := r.get hd'
    have := hw xs (.inl h)
    rw [e1] at this; cases this
    exact pair_new hn ho (.int _) r1
  keep := fun ⟨h, g, r⟩ om go fr gg => ⟨rd_keep h fun o e => fr _ o (go _ g) e, by obtain ⟨o, e⟩ := rd_some h; exact gg _ _ g e, r.step om go fr gg⟩
theorem live_enT {a : Addr} {xs : List V} {ds : List PyData} (hl : xs.length = ds.length) : Live K (EnT K a) (enD ds) (fun G H => SqT K H a xs ∧ RFs K H G xs ds) where
  goes := fun i H G hi ⟨h, _⟩ => ⟨xs, xs[i]'(by rw [enD_len] at hi; omega), h, List.getElem?_eq_getElem _⟩
  stops := fun H G ⟨h, _⟩ => ⟨xs, h, by rw [enD_len]; omega⟩
  yields := fun i H x H2 G d hd ⟨h, r⟩ y => by
    obtain ⟨T, w, ob, rfl, hn, rfl, ho, hw⟩ := y
    obtain ⟨d', hd', rfl⟩ := enD_get hd
    obtain ⟨v, e1, r1⟩ := r.get hd'
    have := hw xs h
    rw [e1] at this; cases this
    exact pair_new hn ho (.int _) r1
  keep := fun ⟨h, r⟩ om go fr gg => ⟨sqt_keep h om fr, r.step om go fr gg⟩
end
def seqD : PyData → Option (List PyData)
  | .list ds => some ds
  | .tuple ds => some ds
  | _ => none
def dEn (f : Ev → Res) : Ev → Res := fun env => match dFr f env with
  | .ok (.own (.fz d)) e q => (match seqD d with
    | some ds => .ok (.own (.fz (.list (enD ds)))) e q
    | none => .stuck)
  | .ok _ _ _ => .stuck
  | .exn c e => .exn c e
  | .stuck => .stuck
/-- one argument, its value as a row -/
theorem pa_sz {X : Cx} {e : Expr} {t : TE} (h : PE X e t) (hs : starEach [e] X.env = [(false, eval e X.env)] := by rfl) : PA X [e] (fun σ H Q => t σ H fun v H' => (∀ a xs, v = .ref a → (SqL X.K H' a xs ∨ SqT X.K H' a xs) → xs.length ≤ SZ) → Q [v] H') := PA.imp (pa_cons (pe_sz h) pa_nil hs) fun σ H Q h => h
theorem si_enum {X : Cx} {elts : List Expr} {kk : Nat} {tpos p pos : Pos} {e : Expr} {f : Ev → Res} (hg : Gl X "enumerate") (hm : X.mg "enumerate" = none) (he : SE X f e) (hs : starEach [e] X.env = [(false, eval e X.env)] := by rfl) : SIT X (.Tuple elts kk tpos) (dEn f) (.Call (.Name "enumerate" p) [e] [] pos) := fun W tk => ⟨fun pins s σ H R I0 ⟨Z, O, env, I, h⟩ => by
  have he' := pa_sz (se_fr he W tk) hs
  unfold dEn at h
  cases ef : dFr f env with
  | stuck => rw [ef] at h; exact h.elim
  | exn c e1 =>
    rw [ef] at h
    refine (pi_enumL (elts := elts) (kk := kk) (tpos := tpos) (p := p) (pos := pos) hg hm he' hs).run pins s σ H R I0 ⟨Z, O, env, I, ?_⟩
    rw [ef]; exact h
  | ok x e1 q =>
    rw [ef] at h
    cases x with
    | vw m => exact h.elim
    | own m =>
      cases m with
      | lst _ => exact h.elim
      | tup _ => exact h.elim
      | dK _ _ => exact h.elim
      | dT _ _ => exact h.elim
      | fz d =>
        cases d with
        | list ds =>
          refine (pi_enumL (elts := elts) (kk := kk) (tpos := tpos) (p := p) (pos := pos) hg hm he' hs).run pins s σ H R I0 ⟨Z, O, env, I, ?_⟩
          rw [ef]
          intro v H' p1 sz
          obtain ⟨O', I', r, st, qu⟩ := p1.fz1
          cases r with
          | lst hq hgz rs => exact ⟨_, _, rfl, .inl hq, h _ H' O' _ I' st qu (by rw [enD_len, ← rs.length]; exact sz _ _ rfl (.inl (.inl hq))) (live_enL rs.length) ⟨hq, hgz, rs⟩⟩
        | tuple ds =>
          refine (pi_enumT (elts := elts) (kk := kk) (tpos := tpos) (p := p) (pos := pos) hg hm he' hs).run pins s σ H R I0 ⟨Z, O, env, I, ?_⟩
          rw [ef]
          intro v H' p1 sz
          obtain ⟨O', I', r, st, qu⟩ := p1.fz1
          cases r with
          | tup hq rs => exact ⟨_, _, rfl, hq.t, h _ H' O' _ I' st qu (by rw [enD_len, ← rs.length]; exact sz _ _ rfl (.inr hq.t)) (live_enT rs.length) ⟨hq.t, rs⟩⟩
        | none => exact h.elim
        | bool _ => exact h.elim
        | int _ => exact h.elim
        | str _ => exact h.elim
        | dict _ => exact h.elim⟩
end Q

set_option Elab.async false
set_option linter.all false
set_option maxRecDepth 100000
set_option maxHeartbeats 4000000
/-! A law's end; constants of the module. -/
namespace Q
open PySem PySem.Spec PyProof.Rows L2

def intObj (o : Obj) : Bool := match o.cls, o.data with
  | .type "list", .seq its _ => its.toList.all fun v => match v with
    | .int _ _ => true
    | _ => false
  | _, _ => false
def noInts (K : PySem.W.Frag) : Bool := K.all fun q => !intObj q.2
theorem vals_int : ∀ {ns : List Int} {us : List Value}, Vals (ns.map V.int) us → (us.all fun v => match v with | .int _ _ => true | _ => false) = true
  | [], _, .nil => rfl
  | n :: ns, _, .cons r t => by
    obtain ⟨k, rfl⟩ := r
    rw [List.all_cons, vals_int t]; rfl
theorem rd_ints {K : PySem.W.Frag} {H : Hp} {a : Addr} {ns : List Int} (h : SqL K H a (ns.map V.int)) (hk : noInts K = true) : L2.Rd H a (.lst (ns.map V.int)) := by
  rcases h with h | ⟨o, its, n, e, c, _, hd, _, hv⟩
  · exact h
  · have hm : (a, o) ∈ K := He.lookup_mem e
    have h1 := List.all_eq_true.mp hk (a, o) hm
    have h2 : intObj o = true := by
      unfold intObj
      rw [c, hd]
      exact vals_int hv
    rw [h2] at h1
    cases h1
theorem ints_rf {K : PySem.W.Frag} {H : Hp} {G : Addr → Prop} : ∀ ns : List Int, RFs K H G (ns.map V.int) (ns.map PyData.int)
  | [] => .nil
  | n :: ns => .cons (.int n) (ints_rf ns)
def scriptD (ns : List Int) : PyData := .list (ns.map PyData.int)
theorem law_sp {K : PySem.W.Frag} {mg : Str → Option Value} {N : List Str} {io : Nat → Bool} {den : Ev → Out} {H : Hp} {a : Addr} {ns : List Int} (hk : noInts K = true) (hS : SqL K H a (ns.map V.int)) (e' : Ev) (hd : den (startE N.length [.fz (scriptD ns)]) = .ret (.fz (.bool true)) e') :
    SpQ K mg N io 1 den [.ref a] H (fun v _ => v = .bl true) (fun _ _ _ => False) := by
  refine ⟨rfl, fun _ => False, [], startE N.length [.fz (scriptD ns)], si_start (.cons (F := []) (.fz (.lst (rd_ints hS hk) ⟨id, fun z => nomatch z⟩ (ints_rf ns))) .nil) List.Pairwise.nil (fun _ z => nomatch z) (fun _ z => z.elim), ?_⟩
  rw [hd]
  intro v σ' H' p
  obtain ⟨O2, F2, _, r, _⟩ := p.ex
  exact r.fzD.1.blI

/-! ### constants of the module -/
mutual
/-- the value is the datum, all its tuples stand in K -/
def kdB (K : PySem.W.Frag) : Nat → Value → PyData → Bool
  | 0, _, _ => false
  | n + 1, .none, d => match d with
    | .none => true
    | _ => false
  | n + 1, .bool b, d => match d with
    | .bool c => b == c
    | _ => false
  | n + 1, .int i _, d => match d with
    | .int j => decide (i = j)
    | _ => false
  | n + 1, .str x _, d => match d with
    | .str y => decide (x = y)
    | _ => false
  | n + 1, .ref a, d => match d with
    | .tuple ds => (match K.lookup a with
      | some ⟨.type "tuple", none, .seq its _, _⟩ => decide (its.size ≤ 1000) && kdsB K n its.toList ds
      | _ => false)
    | _ => false
  | _ + 1, _, _ => false
def kdsB (K : PySem.W.Frag) : Nat → List Value → List PyData → Bool
  | _, [], [] => true
  | 0, _, _ => false
  | n + 1, v :: vs, d :: ds => kdB K n v d && kdsB K n vs ds
  | _, _, _ => false
end
mutual
theorem kdB_ok {K : PySem.W.Frag} : ∀ {n : Nat} {v : Value} {d : PyData}, kdB K n v d = true → ∃ x, RelV x v ∧ ∀ H G, RF K H G x d
  | 0, _, _, h => by unfold kdB at h; cases h
  | n + 1, v, d, h => by
    unfold kdB at h
    split at h
    · rename_i hn; cases hn
    · split at h
      · exact ⟨.non, rfl, fun _ _ => .non⟩
      · cases h
    · split at h
      · rename_i b _ c _
        have e := beq_iff_eq.mp h
        subst e
        exact ⟨.bl b, rfl, fun _ _ => .bl b⟩
      · cases h
    · split at h
      · have e := of_decide_eq_true h
        subst e
        exact ⟨.int _, ⟨_, rfl⟩, fun _ _ => .int _⟩
      · cases h
    · split at h
      · have e := of_decide_eq_true h
        subst e
        exact ⟨.str _, ⟨_, rfl⟩, fun _ _ => .str _⟩
      · cases h
    · rename_i a _
      split at h
      · rename_i ds _
        split at h
        · rename_i its nn sl hl
          obtain ⟨h1, h2⟩ := Bool.and_eq_true_iff.mp h
          have h1 := of_decide_eq_true h1
          obtain ⟨xs, r1, r2⟩ := kdsB_ok h2
          exact ⟨.ref a, rfl, fun H G => .tup (.inr ⟨_, its, nn, hl, rfl, rfl, by rw [sizeLine_eq]; omega, r1, rfl⟩) (r2 H G)⟩
        · cases h
      · cases h
    · cases h
theorem kdsB_ok {K : PySem.W.Frag} : ∀ {n : Nat} {vs : List Value} {ds : List PyData}, kdsB K n vs ds = true → ∃ xs, Vals xs vs ∧ ∀ H G, RFs K H G xs ds
  | 0, [], [], _ => ⟨[], .nil, fun _ _ => .nil⟩
  | n + 1, [], [], _ => ⟨[], .nil, fun _ _ => .nil⟩
  | 0, _ :: _, _, h => by unfold kdsB at h; cases h
  | 0, [], _ :: _, h => by unfold kdsB at h; cases h
  | n + 1, v :: vs, d :: ds, h => by
    unfold kdsB at h
    obtain ⟨h1, h2⟩ := Bool.and_eq_true_iff.mp h
    obtain ⟨x, a1, a2⟩ := kdB_ok h1
    obtain ⟨xs, b1, b2⟩ := kdsB_ok h2
    exact ⟨x :: xs, .cons a1 b1, fun H G => .cons (a2 H G) (b2 H G)⟩
  | n + 1, _ :: _, [], h => by unfold kdsB at h; cases h
  | n + 1, [], _ :: _, h => by unfold kdsB at h; cases h
end
/-- the module's name x is the datum d -/
def conB (K : PySem.W.Frag) (x : Str) (d : PyData) : Bool := match PySem.W.nsIn K mainGlobals x with
  | some (some v) => kdB K 400 v d
  | _ => false
theorem con_ok {K : PySem.W.Frag} {h : Heap} {mg : Str → Option Value} (X : K.In h) (G : h.Ns mainGlobals mg) {x : Str} {d : PyData} (c : conB K x d = true) : ∃ u, mg x = some u ∧ KD K u d := by
  unfold conB at c
  cases e : PySem.W.nsIn K mainGlobals x with
  | none => rw [e] at c; cases c
  | some o =>
    rw [e] at c
    cases o with
    | none => cases c
    | some v => exact ⟨v, PySem.W.mg_of X G e, kdB_ok c⟩
/-- the constants of a program: names and data -/
def consB (K : PySem.W.Frag) (l : List (Str × PyData)) : Bool := l.all fun p => conB K p.1 p.2
theorem cons_ok {K : PySem.W.Frag} {h : Heap} {mg : Str → Option Value} {l : List (Str × PyData)} (X : K.In h) (G : h.Ns mainGlobals mg) (c : consB K l = true) : ∀ p ∈ l, ∃ u, mg p.1 = some u ∧ KD K u p.2 := fun p hp => con_ok X G (List.all_eq_true.mp c p hp)
end Q

set_option Elab.async false
set_option linter.all false
set_option maxRecDepth 100000
set_option maxHeartbeats 4000000
/-! Short forms for printed proofs. -/
namespace Q
open PySem PySem.Spec PyProof.Rows L2

def oNeg : List PyData → Option PyData
  | [.int i] => some (.int (-i))
  | _ => none
theorem und_neg {X : Cx} : UnD X (unaryOp .USub) oNeg := ⟨_, un_neg, fun v H Q ds d hd he k => by
  unfold oNeg at he
  split at he
  · cases he
    exact ⟨_, by rw [hd.one.intI], k _ fun G => .int _⟩
  · cases he⟩
section
variable {X : Cx} {io : Nat → Bool} {ql : Bool} {f g h t : Ev → Res} {a b c e : Expr} {x : Str} {pos p pos' : Pos}
theorem pk (i : Nat) (hN : X.N[i]? = some x := by rfl) (hv : Vis X.env.scope x := by first | exact Or.inl rfl | exact Or.inr (Or.inl rfl) | exact Or.inr (Or.inr rfl)) (hd : (x == ("__debug__" : Str)) = false := by decide)
    (hcd : (x == ("__classdict__" : Str)) = false := by decide) : SE X (dPk i) (.Name x pos) := se_pk hN hv hd hcd
theorem tk (i : Nat) (hN : X.N[i]? = some x := by rfl) (hv : Vis X.env.scope x := by first | exact Or.inl rfl | exact Or.inr (Or.inl rfl) | exact Or.inr (Or.inr rfl)) (hd : (x == ("__debug__" : Str)) = false := by decide)
    (hcd : (x == ("__classdict__" : Str)) = false := by decide) : SE X (dTk i) (.Name x pos) := se_tk hN hv hd hcd
theorem mv (i : Nat) (hN : X.N[i]? = some x := by rfl) (hv : Vis X.env.scope x := by first | exact Or.inl rfl | exact Or.inr (Or.inl rfl) | exact Or.inr (Or.inr rfl)) (hd : (x == ("__debug__" : Str)) = false := by decide)
    (hcd : (x == ("__classdict__" : Str)) = false := by decide) : SE X (dMv i) (.Name x pos) := se_mv hN hv hd hcd
theorem aio (s : Nat) {as : List Arg} {es : List Expr} (h2 : SAA X as es) (hN : X.N[s]? = some x := by rfl) (hv : Vis X.env.scope x := by first | exact Or.inl rfl | exact Or.inr (Or.inl rfl) | exact Or.inr (Or.inr rfl)) (hs : starEach (.Name x pos :: es) X.env = (false, eval (.Name x pos) X.env) :: starEach es X.env := by rfl)
    (hd : (x == ("__debug__" : Str)) = false := by decide) (hcd : (x == ("__classdict__" : Str)) = false := by decide) : SAA X (.io s :: as) (.Name x pos :: es) := saa_io hN hv h2 hs hd hcd
/-- a name as a target -/
theorem nm (i : Nat) (nd : X.N.Nodup) (hi : X.N[i]? = some x := by rfl) (hx : Loc X.env.scope x := by first | exact Or.inl rfl | exact Or.inr rfl) (hio : io i = false := by rfl) (hf : X.fn x = true ∨ X.env.scope.names.lookup x = some .local := by first | exact .inl rfl | exact .inr rfl) : SG X io ql (gNm i) (.Name x pos) :=
  sg_name nd hi hx hio hf
theorem set_ (i : Nat) (nd : X.N.Nodup) (he : SE X f e) (hi : X.N[i]? = some x := by rfl) (hx : Loc X.env.scope x := by first | exact Or.inl rfl | exact Or.inr rfl) (hio : io i = false := by rfl) (hs : swapsWith e (some (.Name x pos')) pos.line X.env = pure false := by rfl) (hf : X.fn x = true ∨ X.env.scope.names.lookup x = some .local := by first | exact .inl rfl | exact .inr rfl) :
    SS X io (dSet i f) (.Assign [.Name x pos'] e pos) := ss_set nd hi hx he hio hs hf
/-! values -/
theorem e_add (ha : SE X f a) (hb : SE X g b) : SE X (dG kAdd [f, g]) (.BinOp a .Add b pos) := se_binV opv_add ha hb
theorem e_mul (ha : SE X f a) (hb : SE X g b) : SE X (dG kMul [f, g]) (.BinOp a .Mult b pos) := se_binV opv_mul ha hb
theorem e_sub (ha : SE X f a) (hb : SE X g b) : SE X (dG (kPl oSub) [f, g]) (.BinOp a .Sub b pos) := se_binV opd_sub.v ha hb
theorem e_div (ha : SE X f a) (hb : SE X g b) : SE X (dG (kPl oFdiv) [f, g]) (.BinOp a .FloorDiv b pos) := se_binV opd_fdiv.v ha hb
theorem e_mod (ha : SE X f a) (hb : SE X g b) : SE X (dG (kPl oMod) [f, g]) (.BinOp a .Mod b pos) := se_binV opd_mod.v ha hb
theorem e_neg (ha : SE X f a) : SE X (dOp oNeg [f]) (.UnaryOp .USub a pos) := se_un und_neg ha
abbrev oLt := oI2b fun i j => decide (i < j)
abbrev oLe := oI2b fun i j => decide (i ≤ j)
abbrev oGt := oI2b fun i j => decide (j < i)
abbrev oGe := oI2b fun i j => decide (j ≤ i)
theorem cv {op : CmpOp} {o : List PyData → Option PyData} (ho : OpD X (compareOp op) o) (ha : SE X f a) (hb : SE X g b) (hm : behindInMarks op b = false := by first | exact nobehind _ (by decide) (by decide) | rfl) : SE X (dG (kPl o) [f, g]) (.Compare a [op] [b] pos) := se_cmpV ho.v ha hb hm
theorem ct {op : CmpOp} {o : List PyData → Option PyData} (ho : OpD X (compareOp op) o) (ha : SE X f a) (hb : SE X g b) (hm : behindInMarks op b = false := by first | exact nobehind _ (by decide) (by decide) | rfl) : ST X (dG (kPl o) [f, g]) (.Compare a [op] [b] pos) := st_cmp ho.v ha hb hm
theorem cvk {op : CmpOp} {k : List Val → Option (Val × Bool)} (ho : OpV X (compareOp op) k) (ha : SE X f a) (hb : SE X g b) (hm : behindInMarks op b = false := by first | exact nobehind _ (by decide) (by decide) | rfl) : SE X (dG k [f, g]) (.Compare a [op] [b] pos) := se_cmpV ho ha hb hm
theorem ctk {op : CmpOp} {k : List Val → Option (Val × Bool)} (ho : OpV X (compareOp op) k) (ha : SE X f a) (hb : SE X g b) (hm : behindInMarks op b = false := by first | exact nobehind _ (by decide) (by decide) | rfl) : ST X (dG k [f, g]) (.Compare a [op] [b] pos) := st_cmp ho ha hb hm
end
/-! ### a function of the module -/
structure HasF (P : Program) (w : World) (K : PySem.W.Frag) (mg : Str → Option Value) (base : Heap) (k : Nat) (x : Str) (ps N : List Str) (io : Nat → Bool) (den : Ev → Out) : Prop where
  ex : ∃ fd, FnQ P w K mg base k (He.ga K x) fd ps N io den ∧ Binds K fd ps [] ∧ (∀ (s : Shared) (us : List Value), us.length = ps.length → BindsTo s fd ⟨us, []⟩ (ps.zip us)) ∧ ∃ (oc : Value) (od : Option Addr) (osl : Array (Option Value)), K.lookup (He.ga K x) = some ⟨oc, od, .func fd, osl⟩
  gl : mg x = some (.ref (He.ga K x))
  kp : PySem.W.keepIn K (.ref (He.ga K x)) = true
theorem HasF.mono {P : Program} {w : World} {K : PySem.W.Frag} {mg : Str → Option Value} {base : Heap} {j k : Nat} {x : Str} {ps N : List Str} {io : Nat → Bool} {den : Ev → Out} (h : HasF P w K mg base j x ps N io den) (hl : j ≤ k) : HasF P w K mg base k x ps N io den := by
  obtain ⟨fd, a, b, b2⟩ := h.ex
  exact ⟨⟨fd, a.mono hl, b, b2⟩, h.gl, h.kp⟩
/-- the head's datum of a def of the module -/
def defAt (st : Stmt) (x : Str) : He.DefD := ⟨(x, none), x, x, defArgs st, defBody st, defScope st, [], []⟩
theorem hasF {P : Program} {w : World} {K : PySem.W.Frag} {h : Heap} {mg : Str → Option Value} {base : Heap} {fa : List He.Fa} {fn : List He.DefD} {x : Str} {st : Stmt} {ps N : List Str} {io : Nat → Bool} {den : Ev → Out} {k : Nat} (X : K.In h) (G : h.Ns mainGlobals mg) (c : He.SaysD fa fn K) (i j : Nat)
    (hi : fn[i]? = some (defAt st x)) (hj : fa[j]? = some (.glo x)) (S : FnScope N ps (defScope st))
    (hb : ∀ (kV doc pm : Value) (an : Option Addr) (cdv ct : Value) (us : List Value), us.length = ps.length → bindArgs (PySem.W.fnOf x x (defArgs st) (defBody st) (defScope st) .none kV doc pm an cdv ct) ⟨us, []⟩ = pure (ps.zip us))
    (body : ∀ (cdv : Value) (A : Around) (outer : List Env) (s : Shared) (H : Hp) (E : XK), Room k (A.deeper (envOfC x (defScope st) s.heap.objs.size (He.ga K x) cdv)) → SSs (cxOf (L2.CX P w) P w K mg base N x (defScope st) (He.ga K x) cdv A outer s H E) io den (defBody st)) : HasF P w K mg base (k + 1) x ps N io den := by
  obtain ⟨fd, F⟩ := c.def_ i hi
  have F : FunD K x x (defArgs st) (defBody st) (defScope st) [] [] (He.ga K x) fd := F
  exact ⟨⟨fd, fn_mkD F S body, F.bindsN hb, F.bindsA hb, by
    obtain ⟨oc, od, _, _, _, _, _, _, _, osl, _, lk, _⟩ := F.ex
    exact ⟨oc, od, osl, lk⟩⟩, He.glo_ok X G (c.fact j hj), F.kp⟩
section
variable {X : Cx} {k : Nat} {ps N : List Str} {io : Nat → Bool} {den : Ev → Out} {x : Str} {p pos : Pos} {e : Expr} {es : List Expr} {fs : List (Ev → Res)} {as : List Arg}
theorem call_ {n : Nat} (F : HasF X.prog X.w X.K X.mg X.base k x ps N io den) (hr : Room k X.A) (ha : SA X (evs fs) (e :: es)) (hg : Gl X x := by rfl) (hl : fs.length = ps.length := by rfl) (hn : N.length = n := by rfl)
    (hdb : (x == ("__debug__" : Str)) = false := by decide) (he : starEach (e :: es) X.env = (false, eval e X.env) :: starEach es X.env := by rfl) (hpl : (backTo pos (starEach es X.env)).any (·.1) = false := by rfl) :
    SE X (dCall n den fs) (.Call (.Name x p) (e :: es) [] pos) := by
  subst hn
  obtain ⟨fd, a, b, _⟩ := F.ex
  exact se_call a hr hg F.gl F.kp b ha hl hdb he hpl
theorem callI_ {n : Nat} (F : HasF X.prog X.w X.K X.mg X.base k x ps N io den) (hr : Room k X.A) (ha : SAA X as (e :: es)) (hio : io (ioPos as) = true := by rfl) (hg : Gl X x := by rfl) (hl : as.length = ps.length := by rfl) (hn : N.length = n := by rfl)
    (hdb : (x == ("__debug__" : Str)) = false := by decide) (he : starEach (e :: es) X.env = (false, eval e X.env) :: starEach es X.env := by rfl) (hpl : (backTo pos (starEach es X.env)).any (·.1) = false := by rfl) :
    SE X (dCallI n den as) (.Call (.Name x p) (e :: es) [] pos) := by
  subst hn
  obtain ⟨fd, a, b, _⟩ := F.ex
  exact se_callI a hr hg F.gl F.kp b ha hio hl hdb he hpl
theorem call0_go {K : PySem.W.Frag} {mg : Str → Option Value} {W : WX} {σ : L2.St} {H : Hp} {Q : VK} (h : TU K mg W (dCall N.length den []) σ H Q) : SpQ K mg N io 0 den ([] ++ []) H Q (WE W σ) := by
  have := tul_nil (call_go (io := io) h)
  exact this
/-- f() -/
def dCall0 (n : Nat) (den : Ev → Out) : Ev → Res := fun env => match dCall n den [] env with
  | .exn _ _ => .stuck
  | r => r
theorem tu_call0 {K : PySem.W.Frag} {mg : Str → Option Value} {W W' : WX} {n : Nat} {σ : L2.St} {H : Hp} {Q : VK} (h : TU K mg W (dCall0 n den) σ H Q) : TU K mg W' (dCall n den []) σ H Q := by
  obtain ⟨Z, O, env, I, h⟩ := h
  refine ⟨Z, O, env, I, ?_⟩
  unfold dCall0 at h
  cases e : dCall n den [] env with
  | stuck => rw [e] at h; exact h
  | exn c e1 => rw [e] at h; exact h.elim
  | ok x e1 q => rw [e] at h; exact h
theorem call0_ {n : Nat} (F : HasF X.prog X.w X.K X.mg X.base k x [] N io den) (hr : Room k X.A) (hg : Gl X x := by rfl) (hdb : (x == ("__debug__" : Str)) = false := by decide) (hn : N.length = n := by rfl) : SE X (dCall0 n den) (.Call (.Name x p) [] [] pos) := by
  subst hn
  obtain ⟨fd, a, b, _⟩ := F.ex
  exact fun W tk => PE.imp (pe_call0 a hr hg F.gl F.kp b .nil passL hdb) fun σ H Q h => call0_go (W := W0) (tu_call0 h)
end
end Q

set_option Elab.async false
set_option linter.all false
set_option maxRecDepth 100000
set_option maxHeartbeats 4000000
/-! More short forms. -/
namespace Q
open PySem PySem.Spec PyProof.Rows L2
theorem room65 {k : Nat} {A : Around} (r : Room k A) : A.units + 65 < cLine := by have := r.un; omega
theorem con_at {K : PySem.W.Frag} {h : Heap} {mg : Str → Option Value} {l : List (Str × PyData)} (X : K.In h) (G : h.Ns mainGlobals mg) (c : consB K l = true) (i : Nat) {x : Str} {d : PyData} (hi : l[i]? = some (x, d)) : ∃ u, mg x = some u ∧ KD K u d :=
  cons_ok X G c (x, d) (List.mem_of_getElem? hi)
theorem taker_nil {K : PySem.W.Frag} {mg : Str → Option Value} {c : Value} : TakerOk K mg [] c := fun _ h => nomatch h
theorem taker_cons {K : PySem.W.Frag} {mg : Str → Option Value} {c : Value} {x : Str} {a : Addr} {b : Bool} {t : Takers} (g : mg x = some (.ref a)) (m : PySem.W.exmOne K (.ref a) c = some b) (r : TakerOk K mg t c) : TakerOk K mg ((x, b) :: t) c := fun p hp C hC => by
  rcases List.mem_cons.mp hp with e | hp
  · subst e
    have := g.symm.trans hC
    cases this
    exact m
  · exact r p hp C hC
section
variable {X : Cx} {io : Nat → Bool} {ql : Bool} {f g h t : Ev → Res} {a b c e : Expr} {es : List Expr} {fs : List (Ev → Res)} {x : Str} {bid T : String} {k : List Val → Option (Val × Bool)} {pos p p2 pos' px : Pos}
theorem tup_ {k : Nat} (h : SA X (evs fs) es) (hl : fs.length ≤ 1000 := by exact Nat.le_of_ble_eq_true rfl) : SE X (dTup fs) (.Tuple es k pos) := se_tup h hl
theorem lst_ (h : SA X (evs fs) es) (hl : fs.length ≤ 1000 := by exact Nat.le_of_ble_eq_true rfl) : SE X (dLst fs) (.List es pos) := se_lst h hl
theorem sss_never {ss : List Stmt} : SSs X io (fun _ => .stuck) ss := fun W tk => PSs.imp pss_never fun D σ H ⟨_, _, _, _, h⟩ => h
theorem se_con {d : PyData} (hx : ∃ u, X.mg x = some u ∧ KD X.K u d) (hg : Gl X x := by rfl) (hd : (x == ("__debug__" : Str)) = false := by decide) : SE X (dLit d) (.Name x pos) := by
  obtain ⟨u, h1, h2⟩ := hx
  exact se_glob hg h1 h2 hd
theorem ix_ (ha : SE X f a) (hb : SE X g b) (hs : PlainIx b := by exact fun _ _ => rfl) : SE X (dIx f g) (.Subscript a b pos) := se_ix ha hb hs
theorem cB (hc : CallV X (.builtin bid) k) (ha : SA X (evs fs) (e :: es)) (hm : X.mg x = none) (hg : Gl X x := by rfl) (hv : bootBuiltins x = some (.builtin bid) := by rfl) (hn : x ≠ "__name__" := by decide) (hdb : (x == ("__debug__" : Str)) = false := by decide)
    (he : starEach (e :: es) X.env = (false, eval e X.env) :: starEach es X.env := by rfl) (hpl : (backTo pos (starEach es X.env)).any (·.1) = false := by rfl) : SE X (dG k fs) (.Call (.Name x p) (e :: es) [] pos) := se_callB hc hg hm hv ha hn hdb he hpl
theorem cT (hc : CallV X (.type T) k) (ha : SA X (evs fs) (e :: es)) (hm : X.mg x = none) (hg : Gl X x := by rfl) (hv : bootBuiltins x = some (.type T) := by rfl) (hn : x ≠ "__name__" := by decide) (hdb : (x == ("__debug__" : Str)) = false := by decide)
    (he : starEach (e :: es) X.env = (false, eval e X.env) :: starEach es X.env := by rfl) (hpl : (backTo pos (starEach es X.env)).any (·.1) = false := by rfl) : SE X (dG k fs) (.Call (.Name x p) (e :: es) [] pos) := se_callTy hc hg hm hv ha hn hdb he hpl
theorem isi_ (t : Ty) (he : SE X f e) (hm : X.mg "isinstance" = none) (hm2 : X.mg (Str.ofString t.n) = none) (hg : Gl X "isinstance" := by rfl) (hg2 : Gl X (Str.ofString t.n) := by rfl) (hv2 : bootBuiltins (Str.ofString t.n) = some (.type t.n) := by rfl)
    (hn : Str.ofString t.n ≠ "__name__" := by decide) (hd : (Str.ofString t.n == ("__debug__" : Str)) = false := by decide)
    (hs : starEach [e, .Name (Str.ofString t.n) p2] X.env = (false, eval e X.env) :: starEach [.Name (Str.ofString t.n) p2] X.env := by rfl) (hpl : (backTo pos (starEach [.Name (Str.ofString t.n) p2] X.env)).any (·.1) = false := by rfl) :
    SE X (dF id (kIsi t) [f]) (.Call (.Name "isinstance" p) [e, .Name (Str.ofString t.n) p2] [] pos) := se_isi t he hg hm hg2 hm2 hv2 hn hd hs hpl
theorem put (s : Nat) (hi : SE X f a) (hN : X.N[s]? = some x := by rfl) (hv : Vis X.env.scope x := by first | exact Or.inl rfl | exact Or.inr (Or.inl rfl) | exact Or.inr (Or.inr rfl)) (hd : (x == ("__debug__" : Str)) = false := by decide) (hcd : (x == ("__classdict__" : Str)) = false := by decide)
    (ha : ∀ v, assign (.Subscript (.Name x px) a pos) X.env v = (do
      let ov ← holding [v] (eval (.Name x px) X.env)
      let iv ← holding [v, ov] (eval a X.env)
      standAt pos
      holding [v, ov, iv] (setItem ov iv v)
      release [v, ov, iv] []) := by intro _; rfl) : SG X io false (gPut s f) (.Subscript (.Name x px) a pos) := sg_put hN hv hi hd hcd ha
theorem put2 (s : Nat) (hi : SE X f a) (hj : SE X g b) (hs : PlainIx a := by exact fun _ _ => rfl) (hN : X.N[s]? = some x := by rfl) (hv : Vis X.env.scope x := by first | exact Or.inl rfl | exact Or.inr (Or.inl rfl) | exact Or.inr (Or.inr rfl)) (hd : (x == ("__debug__" : Str)) = false := by decide) (hcd : (x == ("__classdict__" : Str)) = false := by decide)
    (ha : ∀ v, assign (.Subscript (.Subscript (.Name x px) a p2) b pos) X.env v = (do
      let ov ← holding [v] (eval (.Subscript (.Name x px) a p2) X.env)
      let iv ← holding [v, ov] (eval b X.env)
      standAt pos
      holding [v, ov, iv] (setItem ov iv v)
      release [v, ov, iv] []) := by intro _; rfl) : SG X io false (gPut2 s f g) (.Subscript (.Subscript (.Name x px) a p2) b pos) := sg_put2 hN hv hi hs hj hd hcd ha
end
/-- the law's walk, from the head's facts -/
theorem walk_Q {l : PySem.W.OpenLaw} {n k : Nat} {q : Program} {loose : List Str} {XP : (Str → Option Value) → Heap → Prop} {YP : World → Heap → Prop} {d : DefRec} {x : Str}
    (hn : l.most = some n) (hn2 : n ≤ sizeLine) (hdf : d.params.defaults = []) (hr : Room k callerA)
    (F : ∀ (w : World) (mg : Str → Option Value) (fa : Addr) (h : Heap), YP w h → h.Ns mainGlobals mg → mg d.name = some (.ref fa) →
      ∃ (K : PySem.W.Frag) (fd : FuncData) (sp : Sp), K.In h ∧ (∀ (s : Shared) (u : Value), BindsTo s fd ⟨[u], []⟩ [(x, u)]) ∧
        (∀ (H : Hp) (a : Addr) (ns : List Int), ns.length ≤ n → (∀ z ∈ ns, Builtin.Int.intBits z ≤ 1048576) → Only H → SqL K H a (ns.map V.int) → sp [.ref a] H (fun v _ => v = .bl true) fun _ _ _ => False) ∧
        ∀ base : Heap, K.In base → base.Ns mainGlobals mg → FnOk l.prog w K mg base (L2.CX l.prog w) k fa fd [x] sp) :
    PySem.W.WalkO q loose XP YP l.row.toRowW d [] (fun f vs => PySem.call f vs) := by
  refine Att.attach_callB hn hdf fun w s₀ s₁ mg mb fa o pm cd doc a vs ns T Y ho hd hcd hmg hobj hi hl hbits hgen => ?_
  obtain ⟨K, fd, sp, KX, hb, hsp, hF⟩ := F w mg fa _ Y T.T.g hmg
  exact law_call KX T.T.g T.T.b T.T.builtins T.T.nolimit hgen hobj hi (Nat.le_trans hl hn2) hr hF hb (fun H hO hS => hsp H a ns hl hbits hO hS) fun H e s' hx => by
    obtain ⟨_, _, _, _, _, _, _, _, _, _, _, _, z⟩ := hx
    exact z.elim
theorem law_F {l : PySem.W.OpenLaw} {P : Program} {w : World} {mg : Str → Option Value} {fa : Addr} {h : Heap} {fc : List He.Fa} {fn : List He.DefD} {ex : PySem.W.Frag → Bool} {n k : Nat} {N : List Str} {io : Nat → Bool} {den : Ev → Out} {cs : List (Str × PyData)} (Y : ∃ K : PySem.W.Frag, K.In h ∧ He.SaysX fc fn [] [] ex w h K) (G : h.Ns mainGlobals mg) (hmg : mg ("law" : Str) = some (.ref fa))
    (hex : ∀ K, ex K = true → noInts K = true ∧ consB K cs = true) (hF : ∀ (K : PySem.W.Frag), K.In h → He.SaysD fc fn K → consB K cs = true → ∀ base, HasF P w K mg base k "law" ["script"] N io den)
    (hd : ∀ ns : List Int, ns.length ≤ n → (∀ z ∈ ns, Builtin.Int.intBits z ≤ 1048576) → ∃ e, den (startE N.length [.fz (scriptD ns)]) = .ret (.fz (.bool true)) e) :
    ∃ (K : PySem.W.Frag) (fd : FuncData) (sp : Sp), K.In h ∧ (∀ (s : Shared) (u : Value), BindsTo s fd ⟨[u], []⟩ [("script", u)]) ∧
        (∀ (H : Hp) (a : Addr) (ns : List Int), ns.length ≤ n → (∀ z ∈ ns, Builtin.Int.intBits z ≤ 1048576) → Only H → SqL K H a (ns.map V.int) → sp [.ref a] H (fun v _ => v = .bl true) fun _ _ _ => False) ∧
        ∀ base : Heap, K.In base → base.Ns mainGlobals mg → FnOk P w K mg base (L2.CX P w) k fa fd ["script"] sp := by
  obtain ⟨K, KX, c⟩ := Y
  obtain ⟨h1, h2⟩ := hex K c.more
  obtain ⟨fd0, _, _, b0, oc0, od0, sl0, lk0⟩ := (hF K KX c.t.d h2 h).ex
  have ga := (hF K KX c.t.d h2 h).gl
  have e := hmg.symm.trans ga
  cases e
  obtain ⟨fd, F⟩ : ∃ fd, (∀ (s : Shared) (us : List Value), us.length = 1 → BindsTo s fd ⟨us, []⟩ ((["script"] : List Str).zip us)) ∧ ∀ base, FnQ P w K mg base k (He.ga K "law") fd ["script"] N io den := by
    refine ⟨fd0, b0, fun base => ?_⟩
    obtain ⟨fd1, f1, _, _, oc1, od1, sl1, lk1⟩ := (hF K KX c.t.d h2 base).ex
    rw [lk0] at lk1
    have e1 : fd0 = fd1 := by injection lk1 with e; injection e with _ _ e _; injection e
    rw [e1]
    exact f1
  exact ⟨K, fd, _, KX, fun s u => F.1 s [u] rfl, fun H a ns hl hb hO hS => by
    obtain ⟨e', he⟩ := hd ns hl hb
    exact law_sp h1 hS e' he, fun base _ _ => F.2 base⟩
end Q

set_option Elab.async false
set_option linter.all false
set_option maxRecDepth 100000
set_option maxHeartbeats 4000000
/-! What the denotations come to: plain Lean. -/
namespace Q
open PySem PySem.Spec PyProof.Rows L2

inductive OutR where
  | ret (m : M)
  | exn (c : Exn)
  | stuck
def outR : Out → OutR
  | .ret m _ => .ret m
  | .nx _ => .ret (.fz .none)
  | .exn c _ => .exn c
  | _ => .stuck
theorem dCall_eq (n : Nat) (den : Ev → Out) (fs : List (Ev → Res)) (env : Ev) : dCall n den fs env = match evs fs env with
  | .ok xs env1 q => (match argMs xs with
    | some (ms, v) => (match outR (den (startE n ms)) with
      | .ret m => if v = true ∧ noLM m = false then .stuck else .ok (.own m) env1 (qCall ms q)
      | .exn c => .exn c env1
      | .stuck => .stuck)
    | none => .stuck)
  | .exn c e => .exn c e
  | .stuck => .stuck := by
  unfold dCall
  cases evs fs env with
  | stuck => rfl
  | exn c e => rfl
  | ok xs env1 q =>
    simp only []
    cases argMs xs with
    | none => rfl
    | some mv =>
      obtain ⟨ms, v⟩ := mv
      simp only []
      cases den (startE n ms) with
      | ret m e =>
        cases v with
        | false => simp [outR, retR]
        | true => cases h : noLM m <;> simp [outR, retR, h]
      | nx e => cases v <;> simp [outR, noLM, noL]
      | exn c e => rfl
      | stuck => rfl
      | brk e => rfl
      | ct e => rfl
/-- a quiet evaluation -/
def YQ (f : Ev → Res) (env : Ev) (x : Val) : Prop := ∃ q, f env = .ok x env q ∧ q ≠ .l
def YQs (fs : List (Ev → Res)) (env : Ev) (xs : List Val) : Prop := ∃ q, evs fs env = .ok xs env q ∧ q ≠ .l
theorem jnl {a b : Ql} (h1 : a ≠ .l) (h2 : b ≠ .l) : a.j b ≠ .l := by cases a <;> cases b <;> simp_all [Ql.j]
theorem nnl {a : Ql} (h1 : a ≠ .l) : a.n ≠ .l := by cases a <;> simp_all [Ql.n]
theorem fnl {a : Ql} {b : Bool} (h1 : a ≠ .l) : a.f b ≠ .l := by cases b <;> cases a <;> simp_all [Ql.f, Ql.n]
theorem ys_nil {env : Ev} : YQs [] env [] := ⟨.p, rfl, by simp⟩
theorem ys_cons {f : Ev → Res} {fs : List (Ev → Res)} {env : Ev} {x : Val} {xs : List Val} (h1 : YQ f env x) (h2 : YQs fs env xs) : YQs (f :: fs) env (x :: xs) := by
  obtain ⟨q1, e1, n1⟩ := h1
  obtain ⟨q2, e2, n2⟩ := h2
  refine ⟨q1.j q2, ?_, jnl n1 n2⟩
  unfold evs
  rw [e1]
  simp only [e2]
  cases x <;> cases q2 <;> simp_all
theorem yq_lit {d : PyData} {env : Ev} : YQ (dLit d) env (.own (.fz d)) := ⟨.p, rfl, by simp⟩
theorem yq_pk {i : Nat} {d : PyData} {env : Ev} (h : env[i]? = some (some (.fz d)) := by rfl) : YQ (dPk i) env (.own (.fz d)) := ⟨.p, by unfold dPk; rw [h], by simp⟩
theorem yq_tk {i : Nat} {d : PyData} {env : Ev} (h : env[i]? = some (some (.fz d)) := by rfl) : YQ (dTk i) env (.own (.fz d)) := ⟨.p, by unfold dTk; rw [h], by simp⟩
theorem yq_vw {i : Nat} {ms : List M} {env : Ev} (h : env[i]? = some (some (.lst ms)) := by rfl) : YQ (dPk i) env (.vw (.lst ms)) := ⟨.p, by unfold dPk; rw [h], by simp⟩
theorem yq_G {k : List Val → Option (Val × Bool)} {fs : List (Ev → Res)} {env : Ev} {xs : List Val} {y : Val} {b : Bool} (h : YQs fs env xs) (hk : k xs = some (y, b)) : YQ (dG k fs) env y := by
  obtain ⟨q, e, n⟩ := h
  exact ⟨q.f b, by unfold dG; rw [e]; simp only [hk], fnl n⟩
theorem yq_Fi {k : List Val → Option Val} {fs : List (Ev → Res)} {env : Ev} {xs : List Val} {y : Val} (h : YQs fs env xs) (hk : k xs = some y) : YQ (dF id k fs) env y := by
  obtain ⟨q, e, n⟩ := h
  exact ⟨q, by unfold dF; rw [e]; simp only [hk]; rfl, n⟩
theorem yq_Fn {k : List Val → Option Val} {fs : List (Ev → Res)} {env : Ev} {xs : List Val} {y : Val} (h : YQs fs env xs) (hk : k xs = some y) : YQ (dF Ql.n k fs) env y := by
  obtain ⟨q, e, n⟩ := h
  exact ⟨q.n, by unfold dF; rw [e]; simp only [hk], nnl n⟩
theorem yq_if {t f g : Ev → Res} {env : Ev} {b : Bool} {x : Val} (ht : YQ t env (.own (.fz (.bool b)))) (h1 : b = true → YQ f env x) (h2 : b = false → YQ g env x) : YQ (dIf t f g) env x := by
  obtain ⟨q, e, n⟩ := ht
  cases b with
  | true =>
    obtain ⟨q2, e2, n2⟩ := h1 rfl
    exact ⟨q.j q2, by unfold dIf; rw [e]; simp only [e2, Res.q], jnl n n2⟩
  | false =>
    obtain ⟨q2, e2, n2⟩ := h2 rfl
    exact ⟨q.j q2, by unfold dIf; rw [e]; simp only [e2, Res.q], jnl n n2⟩
theorem yq_and {f g : Ev → Res} {env : Ev} {a b : Bool} (h1 : YQ f env (.own (.fz (.bool a)))) (h2 : a = true → YQ g env (.own (.fz (.bool b)))) : YQ (dAndV f g) env (.own (.fz (.bool (a && b)))) := by
  obtain ⟨q, e, n⟩ := h1
  cases a with
  | true =>
    obtain ⟨q2, e2, n2⟩ := h2 rfl
    exact ⟨q.j q2, by unfold dAndV; rw [e]; simp [e2, Res.q, truthV], jnl n n2⟩
  | false => exact ⟨q, by unfold dAndV; rw [e]; simp [truthV], n⟩
theorem yq_or {f g : Ev → Res} {env : Ev} {a b : Bool} (h1 : YQ f env (.own (.fz (.bool a)))) (h2 : a = false → YQ g env (.own (.fz (.bool b)))) : YQ (dOrV f g) env (.own (.fz (.bool (a || b)))) := by
  obtain ⟨q, e, n⟩ := h1
  cases a with
  | false =>
    obtain ⟨q2, e2, n2⟩ := h2 rfl
    exact ⟨q.j q2, by unfold dOrV; rw [e]; simp [e2, Res.q, truthV], jnl n n2⟩
  | true => exact ⟨q, by unfold dOrV; rw [e]; simp [truthV], n⟩
theorem yq_fr {f : Ev → Res} {env : Ev} {m : M} {d : PyData} (h : YQ f env (.own m)) (hd : frz m = some d) : YQ (dFr f) env (.own (.fz d)) := by
  obtain ⟨q, e, n⟩ := h
  exact ⟨q, by unfold dFr; rw [e]; simp only [hd], n⟩
theorem yq_it {f : Ev → Res} {env : Ev} {m : M} {d : PyData} {ds : List PyData} (h : YQ f env (.own m)) (hd : frz m = some d) (hi : itemsOf d = some ds) : YQ (dIt f) env (.own (.fz (.list ds))) := by
  obtain ⟨q, e, n⟩ := yq_fr h hd
  exact ⟨q, by unfold dIt; rw [e]; simp only [hi], n⟩
theorem yq_call {n : Nat} {den : Ev → Out} {fs : List (Ev → Res)} {env : Ev} {xs : List Val} {ms : List M} {v : Bool} {m : M} (h : YQs fs env xs) (ha : argMs xs = some (ms, v)) (hz : allFz ms = true) (hr : outR (den (startE n ms)) = .ret m) (hv : v = true → noLM m = true) : YQ (dCall n den fs) env (.own m) := by
  obtain ⟨q, e, nq⟩ := h
  refine ⟨qCall ms q, ?_, ?_⟩
  · rw [dCall_eq, e]
    simp only [ha, hr]
    rw [if_neg]
    rintro ⟨z, z2⟩
    rw [hv z] at z2; cases z2
  · unfold qCall; rw [hz]; exact nnl nq
/-- the comprehension's run, nothing changed by it -/
theorem runC_q {p : Tg} {t f : Ev → Res} {vs : List Nat} {env : Ev} (b : PyData → Bool) (g : PyData → M) : ∀ {ds : List PyData}, (∀ d ∈ ds, ∃ e1, p d env = some e1 ∧ YQ t e1 (.own (.fz (.bool (b d)))) ∧ (b d = true → YQ f e1 (.own (g d))) ∧ wipeE e1 vs = env) →
    ∃ q, runC p t f vs ds env = some ((ds.filter b).map g, env, q) ∧ q ≠ .l
  | [], _ => ⟨.p, rfl, by simp⟩
  | d :: ds, h => by
    obtain ⟨e1, h1, ⟨q1, h2, n1⟩, h3, h4⟩ := h d List.mem_cons_self
    obtain ⟨q, e, n⟩ := runC_q b g (ds := ds) fun x hx => h x (List.mem_cons_of_mem _ hx)
    unfold runC
    simp only [h1, h2]
    cases hb : b d with
    | true =>
      obtain ⟨q3, h5, n3⟩ := h3 hb
      refine ⟨(q1.j q3).j q, ?_, jnl (jnl n1 n3) n⟩
      simp only [h5, h4, e, Option.map_some, List.filter_cons, hb, if_true, List.map_cons]
    | false =>
      refine ⟨q1.j q, ?_, jnl n1 n⟩
      simp only [h4, e, Option.map_some, List.filter_cons, hb]
      simp
theorem yq_lc {p : Tg} {src t f : Ev → Res} {vs : List Nat} {env : Ev} {ds : List PyData} (env0 : Ev) (b : PyData → Bool) (g : PyData → M) (hs : YQ src env (.own (.fz (.list ds))))
    (he : ∀ d ∈ ds, ∃ e1, p d env0 = some e1 ∧ YQ t e1 (.own (.fz (.bool (b d)))) ∧ (b d = true → YQ f e1 (.own (g d))) ∧ wipeE e1 vs = env0) (hc : vs.all (calmAt env) = true := by rfl) (hw : wipeE env vs = env0 := by rfl) (hr : restE env0 env vs = env := by rfl) :
    YQ (dLc p src t f vs) env (.own (.lst ((ds.filter b).map g))) := by
  obtain ⟨q, e, n⟩ := hs
  obtain ⟨q2, e2, n2⟩ := runC_q (p := p) (t := t) (f := f) b g he
  refine ⟨(q.j q2).n, ?_, nnl (jnl n n2)⟩
  unfold dLc
  rw [e]
  simp only [hc, if_true, hw, e2, hr]
/-- no test -/
theorem yq_lc0 {p : Tg} {src f : Ev → Res} {vs : List Nat} {env : Ev} {ds : List PyData} (env0 : Ev) (g : PyData → M) (hs : YQ src env (.own (.fz (.list ds))))
    (he : ∀ d ∈ ds, ∃ e1, p d env0 = some e1 ∧ YQ f e1 (.own (g d)) ∧ wipeE e1 vs = env0) (hc : vs.all (calmAt env) = true := by rfl) (hw : wipeE env vs = env0 := by rfl) (hr : restE env0 env vs = env := by rfl) :
    YQ (dLc p src (dLit (.bool true)) f vs) env (.own (.lst (ds.map g))) := by
  have h := yq_lc (p := p) (f := f) (t := dLit (.bool true)) env0 (fun _ => true) g hs (fun d hd => by
    obtain ⟨e1, h1, h2, h3⟩ := he d hd
    exact ⟨e1, h1, yq_lit, fun _ => h2, h3⟩) hc hw hr
  have e : ds.filter (fun _ => true) = ds := List.filter_eq_self.mpr (by simp)
  rw [e] at h
  exact h
theorem frzs_fz (ds : List PyData) : frzs (ds.map M.fz) = some ds := by
  induction ds with
  | nil => rfl
  | cons d ds ih => simp [frzs, frz, ih]
theorem frz_lst (ds : List PyData) : frz (.lst (ds.map M.fz)) = some (.list ds) := by simp [frz, frzs_fz]
/-- what is returned -/
theorem out_ret {f : Ev → Res} {env : Ev} {m : M} (h : YQ f env (.own m)) : outR (dRet f env) = .ret m := by
  obtain ⟨q, e, _⟩ := h
  unfold dRet; rw [e]; rfl
theorem out_if {t : Ev → Res} {a b : Ev → Out} {env : Ev} {c : Bool} (h : YQ t env (.own (.fz (.bool c)))) : dIfS t a b env = if c = true then a env else b env := by
  obtain ⟨q, e, _⟩ := h
  unfold dIfS; rw [e]; cases c <;> rfl
theorem out_seq_ret {a b : Ev → Out} {env e : Ev} {m : M} (h : a env = .ret m e) : dSeq a b env = .ret m e := by unfold dSeq; rw [h]
theorem out_seq {a b : Ev → Out} {env e : Ev} (h : a env = .nx e) : dSeq a b env = b e := by unfold dSeq; rw [h]
theorem out_set {i : Nat} {f : Ev → Res} {env : Ev} {m : M} (h : YQ f env (.own m)) (hi : i < env.length) : dSet i f env = .nx (env.set i (some m)) := by
  obtain ⟨q, e, _⟩ := h
  unfold dSet; rw [e]; simp only [put1, if_pos hi]
theorem out_ex {f : Ev → Res} {env : Ev} {x : Val} (h : YQ f env x) : dEx f env = .nx env := by
  obtain ⟨q, e, _⟩ := h
  unfold dEx; rw [e]
end Q

set_option Elab.async false
set_option linter.all false
set_option maxRecDepth 100000
set_option maxHeartbeats 4000000
/-! The laws' draws. -/
namespace Q
open PySem PySem.Spec PyProof.Rows L2

theorem yq_ix {f g : Ev → Res} {env : Ev} {x y : Val} {i : Int} (h1 : YQ f env x) (h2 : YQ g env (.own (.fz (.int i)))) (hy : ixV x i = some y) : YQ (dIx f g) env y :=
  yq_Fi (ys_cons h1 (ys_cons h2 ys_nil)) (by unfold kIx; exact hy)
theorem out_put {s : Nat} {fi f : Ev → Res} {env : Ev} {k : Int} {d : PyData} {ms : List M} {j : Nat} (h : YQ f env (.own (.fz d))) (hi : YQ fi env (.own (.fz (.int k)))) (hs : env[s]? = some (some (.lst ms))) (hj : ixN ms.length k = some j) :
    dAsg (gPut s fi) f env = .nx (env.set s (some (.lst (ms.set j (.fz d))))) := by
  obtain ⟨q, e, _⟩ := yq_fr h (m := .fz d) rfl
  obtain ⟨q2, e2, _⟩ := hi
  unfold dAsg gPut
  rw [e]
  simp only [held1, hs, if_true, e2, intE, wrAt, M.wr, setD, hj, Option.map_some]
/-- two ints, or one -/
theorem kpl2 {o : List PyData → Option PyData} {a b d : PyData} (h : o [a, b] = some d) : kPl o [.own (.fz a), .own (.fz b)] = some (.own (.fz d), false) := by
  unfold kPl valDs valD frz valDs valD frz valDs
  simp [h]
theorem kpl1 {o : List PyData → Option PyData} {a d : PyData} (h : o [a] = some d) : kPl o [.own (.fz a)] = some (.own (.fz d), false) := by
  unfold kPl valDs valD frz valDs
  simp [h]
section
variable {f g : Ev → Res} {env : Ev} {i j : Int} {a b d : PyData}
theorem y1 (h : YQ f env (.own (.fz a))) : YQs [f] env [.own (.fz a)] := ys_cons h ys_nil
theorem y2 (h : YQ f env (.own (.fz a))) (h2 : YQ g env (.own (.fz b))) : YQs [f, g] env [.own (.fz a), .own (.fz b)] := ys_cons h (y1 h2)
theorem yq_p2 {o : List PyData → Option PyData} (h : YQ f env (.own (.fz a))) (h2 : YQ g env (.own (.fz b))) (ho : o [a, b] = some d) : YQ (dG (kPl o) [f, g]) env (.own (.fz d)) := yq_G (y2 h h2) (kpl2 ho)
theorem yq_p1 {o : List PyData → Option PyData} (h : YQ f env (.own (.fz a))) (ho : o [a] = some d) : YQ (dG (kPl o) [f]) env (.own (.fz d)) := yq_G (y1 h) (kpl1 ho)
theorem yq_add (h : YQ f env (.own (.fz (.int i)))) (h2 : YQ g env (.own (.fz (.int j)))) : YQ (dG kAdd [f, g]) env (.own (.fz (.int (i + j)))) := yq_G (b := false) (y2 h h2) (by
  unfold kAdd kAddP; rw [kpl2 (d := .int (i + j)) rfl]; rfl)
theorem yq_mul (h : YQ f env (.own (.fz (.int i)))) (h2 : YQ g env (.own (.fz (.int j)))) (hm : mulOk i j = true) : YQ (dG kMul [f, g]) env (.own (.fz (.int (i * j)))) := yq_G (b := false) (y2 h h2) (by
  unfold kMul kMulP; rw [kpl2 (d := .int (i * j)) (by unfold oMulI oI2; simp [hm])]; rfl)
theorem yq_sub (h : YQ f env (.own (.fz (.int i)))) (h2 : YQ g env (.own (.fz (.int j)))) : YQ (dG (kPl oSub) [f, g]) env (.own (.fz (.int (i - j)))) := yq_p2 h h2 rfl
theorem yq_mod (h : YQ f env (.own (.fz (.int i)))) (h2 : YQ g env (.own (.fz (.int j)))) (hj : 0 < j) : YQ (dG (kPl oMod) [f, g]) env (.own (.fz (.int (i % j)))) := yq_p2 h h2 (by
  have h0 : decide (j ≠ 0) = true := decide_eq_true (by omega)
  simp only [oMod, oI2, h0, if_true, Int.fmod_eq_emod_of_nonneg _ (show 0 ≤ j by omega)])
theorem yq_div (h : YQ f env (.own (.fz (.int i)))) (h2 : YQ g env (.own (.fz (.int j)))) (hj : 0 < j) (hl : j.natAbs.log2 < 9000) : YQ (dG (kPl oFdiv) [f, g]) env (.own (.fz (.int (i / j)))) := yq_p2 h h2 (by
  have h0 : divOk i j = true := by unfold divOk; simp [hl]; omega
  simp only [oFdiv, oI2, h0, if_true, Int.fdiv_eq_ediv_of_nonneg _ (show 0 ≤ j by omega)])
theorem yq_int (h : YQ f env (.own (.fz (.int i)))) : YQ (dG (kPl oInt) [f]) env (.own (.fz (.int i))) := yq_p1 h rfl
theorem yq_abs (h : YQ f env (.own (.fz (.int i)))) : YQ (dG (kPl oAbs) [f]) env (.own (.fz (.int (i.natAbs : Nat)))) := yq_p1 h (by
  unfold oAbs; simp only []; congr 2; split <;> omega)
theorem yq_eqi (h : YQ f env (.own (.fz (.int i)))) (h2 : YQ g env (.own (.fz (.int j)))) : YQ (dG (kPl oEq) [f, g]) env (.own (.fz (.bool (decide (i = j))))) := yq_p2 h h2 (by
  unfold oEq; simp [eqOk, scalP, scalD, PyData.eqv]; rfl)
theorem yq_nei (h : YQ f env (.own (.fz (.int i)))) (h2 : YQ g env (.own (.fz (.int j)))) : YQ (dG (kPl oNe) [f, g]) env (.own (.fz (.bool (decide (i ≠ j))))) := yq_p2 h h2 (by
  unfold oNe; simp [eqOk, scalP, scalD, PyData.eqv]; rfl)
theorem yq_lt (h : YQ f env (.own (.fz (.int i)))) (h2 : YQ g env (.own (.fz (.int j)))) : YQ (dG (kPl oLt) [f, g]) env (.own (.fz (.bool (decide (i < j))))) := yq_p2 h h2 rfl
theorem yq_le (h : YQ f env (.own (.fz (.int i)))) (h2 : YQ g env (.own (.fz (.int j)))) : YQ (dG (kPl oLe) [f, g]) env (.own (.fz (.bool (decide (i ≤ j))))) := yq_p2 h h2 rfl
theorem yq_gt (h : YQ f env (.own (.fz (.int i)))) (h2 : YQ g env (.own (.fz (.int j)))) : YQ (dG (kPl oGt) [f, g]) env (.own (.fz (.bool (decide (j < i))))) := yq_p2 h h2 rfl
theorem yq_len {x : Val} {n : Nat} (h : YQ f env x) (hl : lenV x = some n) : YQ (dG kLen [f]) env (.own (.fz (.int n))) := yq_G (b := false) (ys_cons h ys_nil) (by simp only [kLen, hl, Option.map_some]; rfl)
theorem yq_isi {t : Ty} {x : Val} {c : Bool} (h : YQ f env x) (hc : isiV t x = some c) : YQ (dF id (kIsi t) [f]) env (.own (.fz (.bool c))) := yq_Fi (ys_cons h ys_nil) (by simp only [kIsi, hc, Option.map_some])
theorem yq_tru {x : Val} {c : Bool} (h : YQ f env x) (hc : truthV x = some c) : YQ (dTru f) env (.own (.fz (.bool c))) := yq_Fi (ys_cons h ys_nil) (by simp only [kTru, hc, Option.map_some])
theorem yq_not {c : Bool} (h : YQ f env (.own (.fz (.bool c)))) : YQ (dIf f (dLit (.bool false)) (dLit (.bool true))) env (.own (.fz (.bool (!c)))) := yq_if h (fun e => by subst e; exact yq_lit) (fun e => by subst e; exact yq_lit)
theorem yq_orT {a b : Bool} (h : YQ f env (.own (.fz (.bool a)))) (h2 : a = false → YQ g env (.own (.fz (.bool b)))) : YQ (dIf f (dLit (.bool true)) g) env (.own (.fz (.bool (a || b)))) := yq_if h (fun e => by subst e; exact yq_lit) (fun e => by subst e; exact h2 rfl)
theorem yq_andT {a b : Bool} (h : YQ f env (.own (.fz (.bool a)))) (h2 : a = true → YQ g env (.own (.fz (.bool b)))) : YQ (dIf f g (dLit (.bool false))) env (.own (.fz (.bool (a && b)))) := yq_if h (fun e => by subst e; exact h2 rfl) (fun e => by subst e; exact yq_lit)
end
/-! ### draws -/
structure Dr where
  cs : List Int
  at_ : Int
  hv : Int
  sd : Int
def Dr.m (D : Dr) : M := .lst [.fz (.list (D.cs.map .int)), .fz (.int D.at_), .fz (.int D.hv), .fz (.int D.sd)]
structure Dr.Ok (D : Dr) : Prop where
  at_ : -1 ≤ D.at_
  hv : 0 ≤ D.hv
  sd : 0 ≤ D.sd
  sd2 : D.sd < 2147483647
  cs : ∀ c ∈ D.cs, 0 ≤ c
def takeDen : Ev → Out :=
  dSeq (dIfS (dG (kPl oEq) [dIx (dPk 0) (dLit (.int 2)), dLit (.int 0)]) (dSeq (dAsg (gPut 0 (dLit (.int 1))) (dG kAdd [dIx (dPk 0) (dLit (.int 1)), dLit (.int 1)]))
    (dSeq (dIfS (dG (kPl oLt) [dIx (dPk 0) (dLit (.int 1)), dG (kLen) [dIx (dPk 0) (dLit (.int 0))]]) (dAsg (gPut 0 (dLit (.int 2))) (dIx (dIx (dPk 0) (dLit (.int 0))) (dIx (dPk 0) (dLit (.int 1))))) (dNx))
    (dIfS (dG (kPl oEq) [dIx (dPk 0) (dLit (.int 2)), dLit (.int 0)]) (dSeq (dAsg (gPut 0 (dLit (.int 3))) (dG (kPl oMod) [dG (kPl oInt) [dG kAdd [dG kMul [dIx (dPk 0) (dLit (.int 3)), dLit (.int 48271)], dLit (.int 11)]], dLit (.int 2147483647)]))
    (dAsg (gPut 0 (dLit (.int 2))) (dIx (dPk 0) (dLit (.int 3))))) (dNx)))) (dNx))
    (dSeq (dSet 2 (dG (kPl oMod) [dG (kPl oInt) [dIx (dPk 0) (dLit (.int 2))], dPk 1]))
    (dSeq (dAsg (gPut 0 (dLit (.int 2))) (dG (kPl oFdiv) [dIx (dPk 0) (dLit (.int 2)), dPk 1]))
    (dRet (dTk 2))))
abbrev tkE (D : Dr) (m : Int) (r : Option M) : Ev := [some D.m, some (.fz (.int m)), r]
section
variable {D : Dr} {m : Int} {r : Option M}
theorem dr0 : YQ (dIx (dPk 0) (dLit (.int 0))) (tkE D m r) (.own (.fz (.list (D.cs.map .int)))) := yq_ix (yq_vw rfl) yq_lit rfl
theorem dr1 : YQ (dIx (dPk 0) (dLit (.int 1))) (tkE D m r) (.own (.fz (.int D.at_))) := yq_ix (yq_vw rfl) yq_lit rfl
theorem dr2 : YQ (dIx (dPk 0) (dLit (.int 2))) (tkE D m r) (.own (.fz (.int D.hv))) := yq_ix (yq_vw rfl) yq_lit rfl
theorem dr3 : YQ (dIx (dPk 0) (dLit (.int 3))) (tkE D m r) (.own (.fz (.int D.sd))) := yq_ix (yq_vw rfl) yq_lit rfl
theorem put1_ {f : Ev → Res} {x : Int} (h : YQ f (tkE D m r) (.own (.fz (.int x)))) : dAsg (gPut 0 (dLit (.int 1))) f (tkE D m r) = .nx (tkE { D with at_ := x } m r) := by
  have z := out_put (s := 0) (ms := [.fz (.list (D.cs.map .int)), .fz (.int D.at_), .fz (.int D.hv), .fz (.int D.sd)]) (j := 1) (fi := dLit (.int 1)) h yq_lit rfl rfl
  exact z
theorem put2_ {f : Ev → Res} {x : Int} (h : YQ f (tkE D m r) (.own (.fz (.int x)))) : dAsg (gPut 0 (dLit (.int 2))) f (tkE D m r) = .nx (tkE { D with hv := x } m r) := by
  have z := out_put (s := 0) (ms := [.fz (.list (D.cs.map .int)), .fz (.int D.at_), .fz (.int D.hv), .fz (.int D.sd)]) (j := 2) (fi := dLit (.int 2)) h yq_lit rfl rfl
  exact z
theorem put3_ {f : Ev → Res} {x : Int} (h : YQ f (tkE D m r) (.own (.fz (.int x)))) : dAsg (gPut 0 (dLit (.int 3))) f (tkE D m r) = .nx (tkE { D with sd := x } m r) := by
  have z := out_put (s := 0) (ms := [.fz (.list (D.cs.map .int)), .fz (.int D.at_), .fz (.int D.hv), .fz (.int D.sd)]) (j := 3) (fi := dLit (.int 3)) h yq_lit rfl rfl
  exact z
end
theorem mul_small {i : Int} (h0 : 0 ≤ i) (h : i < 2147483647) : mulOk i 48271 = true := by
  unfold mulOk
  apply decide_eq_true
  have h1 : i.natAbs.log2 < 31 := by
    rcases Nat.eq_zero_or_pos i.natAbs with e | e
    · rw [e]; decide
    · rw [Nat.log2_lt (by omega)]; omega
  have h2 : (48271 : Int).natAbs.log2 = 15 := by decide
  omega
theorem take_den {D : Dr} (ok : D.Ok) {m : Int} (h1 : 1 ≤ m) (hm : m.natAbs.log2 < 9000) : ∃ x D2, 0 ≤ x ∧ x < m ∧ Dr.Ok D2 ∧ takeDen (tkE D m none) = .ret (.fz (.int x)) (tkE D2 m (some (.fz (.int x)))) := by
  -- behind the filling
  have last : ∀ {D : Dr}, D.Ok → ∃ x D2, 0 ≤ x ∧ x < m ∧ Dr.Ok D2 ∧ dSeq (dSet 2 (dG (kPl oMod) [dG (kPl oInt) [dIx (dPk 0) (dLit (.int 2))], dPk 1])) (dSeq (dAsg (gPut 0 (dLit (.int 2))) (dG (kPl oFdiv) [dIx (dPk 0) (dLit (.int 2)), dPk 1])) (dRet (dTk 2))) (tkE D m none) = .ret (.fz (.int x)) (tkE D2 m (some (.fz (.int x)))) := fun {D} ok => by
    refine ⟨D.hv % m, { D with hv := D.hv / m }, Int.emod_nonneg _ (by omega), Int.emod_lt_of_pos _ (by omega), ⟨ok.at_, Int.ediv_nonneg ok.hv (by omega), ok.sd, ok.sd2, ok.cs⟩, ?_⟩
    rw [out_seq (out_set (yq_mod (yq_int dr2) (yq_pk rfl) (by omega)) (show 2 < 3 by decide))]
    show dSeq _ _ (tkE D m (some (.fz (.int (D.hv % m))))) = _
    rw [out_seq (put2_ (yq_div dr2 (yq_pk rfl) (by omega) hm))]
    rfl
  unfold takeDen
  by_cases hz : D.hv = 0
  · have step : ∀ {D : Dr}, D.Ok → ∃ D2, Dr.Ok D2 ∧ dIfS (dG (kPl oEq) [dIx (dPk 0) (dLit (.int 2)), dLit (.int 0)]) (dSeq (dAsg (gPut 0 (dLit (.int 3))) (dG (kPl oMod) [dG (kPl oInt) [dG kAdd [dG kMul [dIx (dPk 0) (dLit (.int 3)), dLit (.int 48271)], dLit (.int 11)]], dLit (.int 2147483647)]))
        (dAsg (gPut 0 (dLit (.int 2))) (dIx (dPk 0) (dLit (.int 3))))) (dNx) (tkE D m none) = .nx (tkE D2 m none) := fun {D} ok => by
      rw [out_if (yq_eqi dr2 yq_lit)]
      by_cases hz : D.hv = 0
      · refine ⟨{ D with sd := (D.sd * 48271 + 11) % 2147483647, hv := (D.sd * 48271 + 11) % 2147483647 }, ⟨ok.at_, Int.emod_nonneg _ (by omega), Int.emod_nonneg _ (by omega), Int.emod_lt_of_pos _ (by omega), ok.cs⟩, ?_⟩
        rw [if_pos (decide_eq_true hz), out_seq (put3_ (yq_mod (yq_int (yq_add (yq_mul dr3 yq_lit (mul_small ok.sd ok.sd2)) yq_lit)) yq_lit (by decide)))]
        exact put2_ dr3
      · exact ⟨D, ok, by rw [if_neg (by simp [hz])]; rfl⟩
    have ok1 : Dr.Ok { D with at_ := D.at_ + 1 } := ⟨by have := ok.at_; show -1 ≤ D.at_ + 1; omega, ok.hv, ok.sd, ok.sd2, ok.cs⟩
    obtain ⟨D1, okD1, e1⟩ : ∃ D1, Dr.Ok D1 ∧ dIfS (dG (kPl oLt) [dIx (dPk 0) (dLit (.int 1)), dG (kLen) [dIx (dPk 0) (dLit (.int 0))]]) (dAsg (gPut 0 (dLit (.int 2))) (dIx (dIx (dPk 0) (dLit (.int 0))) (dIx (dPk 0) (dLit (.int 1))))) (dNx) (tkE { D with at_ := D.at_ + 1 } m none) = .nx (tkE D1 m none) := by
      rw [out_if (yq_lt dr1 (yq_len dr0 rfl))]
      by_cases hl : (D.at_ + 1) < ((D.cs.map PyData.int).length : Int)
      · have h0 : 0 ≤ D.at_ + 1 := by have := ok.at_; omega
        have hn : (D.at_ + 1).toNat < D.cs.length := by simp at hl; omega
        refine ⟨{ D with at_ := D.at_ + 1, hv := D.cs[(D.at_ + 1).toNat] }, ⟨ok1.at_, ok.cs _ (List.getElem_mem _), ok.sd, ok.sd2, ok.cs⟩, ?_⟩
        rw [if_pos (decide_eq_true hl)]
        refine put2_ (yq_ix dr0 dr1 ?_)
        simp only [ixV, atI, ixN, if_pos h0, if_pos hl, Option.bind_some]
        simp [hn]
      · exact ⟨_, ok1, by rw [if_neg (by simpa using hl)]; rfl⟩
    obtain ⟨D2, ok2, e2⟩ := step okD1
    obtain ⟨x, D3, hx1, hx2, ok3, e3⟩ := last ok2
    refine ⟨x, D3, hx1, hx2, ok3, ?_⟩
    rw [out_seq (e := tkE D2 m none) ?_]
    · exact e3
    rw [out_if (yq_eqi dr2 yq_lit), if_pos (decide_eq_true hz), out_seq (put1_ (yq_add dr1 yq_lit)), out_seq e1]
    exact e2
  · obtain ⟨x, D3, hx1, hx2, ok3, e3⟩ := last ok
    refine ⟨x, D3, hx1, hx2, ok3, ?_⟩
    rw [out_seq (e := tkE D m none) ?_]
    · exact e3
    rw [out_if (yq_eqi dr2 yq_lit), if_neg (by simp [hz])]
    rfl
/-! ### loops -/
theorem runF_ix {p : Tg} {b : Ev → Out} (I : Nat → Ev → Prop) : ∀ {ds : List PyData} {k : Nat} {env : Ev}, (∀ i d, ds[i]? = some d → ∀ env, I (k + i) env → ∃ e1 e2, p d env = some e1 ∧ (b e1 = .nx e2 ∨ b e1 = .ct e2) ∧ I (k + i + 1) e2) → I k env → ∃ e2, runF p b ds env = .nx e2 ∧ I (k + ds.length) e2
  | [], k, env, _, h => ⟨env, rfl, h⟩
  | d :: ds, k, env, hs, h => by
    obtain ⟨e1, e2, h1, h2, h3⟩ := hs 0 d rfl env h
    obtain ⟨e3, h4, h5⟩ := runF_ix I (ds := ds) (k := k + 1) (env := e2) (fun i d' hd env' hI => by
      have q := hs (i + 1) d' (by simpa using hd) env' (by rw [show k + (i + 1) = k + 1 + i by omega]; exact hI)
      rw [show k + (i + 1) + 1 = k + 1 + i + 1 by omega] at q
      exact q) h3
    refine ⟨e3, ?_, by rw [List.length_cons, show k + (ds.length + 1) = k + 1 + ds.length by omega]; exact h5⟩
    unfold runF
    simp only [h1]
    rcases h2 with h2 | h2 <;> simp only [h2, h4]
theorem runF_inv {p : Tg} {b : Ev → Out} (I : Ev → Prop) {ds : List PyData} {env : Ev} (hs : ∀ d ∈ ds, ∀ env, I env → ∃ e1 e2, p d env = some e1 ∧ (b e1 = .nx e2 ∨ b e1 = .ct e2) ∧ I e2) (h : I env) : ∃ e2, runF p b ds env = .nx e2 ∧ I e2 := by
  obtain ⟨e2, h1, h2⟩ := runF_ix (p := p) (b := b) (fun _ => I) (ds := ds) (k := 0) (env := env) (fun i d hd env' hI => hs d (List.mem_of_getElem? hd) env' hI) h
  exact ⟨e2, h1, h2⟩
theorem out_for {p : Tg} {src : Ev → Res} {b : Ev → Out} {env : Ev} {ds : List PyData} (h : YQ src env (.own (.fz (.list ds)))) : dFor p src b env = runF p b ds env := by
  obtain ⟨q, e, _⟩ := h
  unfold dFor; rw [e]
theorem yq_op1 {o : List PyData → Option PyData} {f : Ev → Res} {env : Ev} {a d : PyData} (h : YQ f env (.own (.fz a))) (ho : o [a] = some d) : YQ (dOp o [f]) env (.own (.fz d)) := yq_Fi (y1 h) (by
  unfold kOp valDs valD frz valDs
  simp [ho])
theorem yq_neg {f : Ev → Res} {env : Ev} {i : Int} (h : YQ f env (.own (.fz (.int i)))) : YQ (dOp oNeg [f]) env (.own (.fz (.int (-i)))) := yq_op1 h rfl
def drawDen : Ev → Out :=
  dSeq (dSet 1 (dLit (.int 7)))
    (dSeq (dFor (gNm 2) (dIt (dTk 0)) (dSet 1 (dG (kPl oMod) [dG (kPl oInt) [dG kAdd [dG kAdd [dG kMul [dPk 1, dLit (.int 48271)], dG (kPl oMod) [dG (kPl oAbs) [dG (kPl oInt) [dPk 2]], dLit (.int 65521)]], dLit (.int 1)]], dLit (.int 2147483647)])))
    (dRet (dLst [dFr (dLc (gNm 2) (dIt (dTk 0)) (dLit (.bool true)) (dG (kPl oAbs) [dG (kPl oInt) [dPk 2]]) [2]), dOp oNeg [dLit (.int 1)], dLit (.int 0), dTk 1])))
theorem draw_den (ns : List Int) : ∃ D, Dr.Ok D ∧ outR (drawDen (startE 3 [.fz (scriptD ns)])) = .ret D.m := by
  unfold drawDen
  have e0 : startE 3 [.fz (scriptD ns)] = [some (.fz (scriptD ns)), none, none] := rfl
  rw [e0, out_seq (out_set yq_lit (by simp)), List.set_cons_succ, List.set_cons_zero]
  have it : ∀ {x y : Option M}, YQ (dIt (dTk 0)) [some (.fz (scriptD ns)), x, y] (.own (.fz (.list (ns.map .int)))) := fun {x y} => yq_it (yq_tk rfl) rfl rfl
  obtain ⟨e2, h1, sd, y, h2, h3, h4, hy⟩ := runF_inv (p := gNm 2) (b := dSet 1 (dG (kPl oMod) [dG (kPl oInt) [dG kAdd [dG kAdd [dG kMul [dPk 1, dLit (.int 48271)], dG (kPl oMod) [dG (kPl oAbs) [dG (kPl oInt) [dPk 2]], dLit (.int 65521)]], dLit (.int 1)]], dLit (.int 2147483647)]))
    (fun e => ∃ (sd : Int) (y : Option M), e = [some (.fz (scriptD ns)), some (.fz (.int sd)), y] ∧ 0 ≤ sd ∧ sd < 2147483647 ∧ calmAt e 2 = true) (ds := ns.map .int) (env := [some (.fz (scriptD ns)), some (.fz (.int 7)), none]) (fun d hd env => by
      rintro ⟨sd, y, rfl, h0, h1, _⟩
      obtain ⟨n, _, rfl⟩ := List.mem_map.mp hd
      refine ⟨[some (.fz (scriptD ns)), some (.fz (.int sd)), some (.fz (.int n))], _, rfl, .inl (out_set (yq_mod (yq_int (yq_add (yq_add (yq_mul (yq_pk rfl) yq_lit (mul_small h0 h1)) (yq_mod (yq_abs (yq_int (yq_pk rfl))) yq_lit (by decide))) yq_lit)) yq_lit (by decide)) (by simp)), _, _, rfl, Int.emod_nonneg _ (by omega), Int.emod_lt_of_pos _ (by omega), rfl⟩)
    ⟨7, none, rfl, by decide, by decide, rfl⟩
  rw [out_seq ((out_for it).trans h1)]
  subst h2
  have lc : YQ (dLc (gNm 2) (dIt (dTk 0)) (dLit (.bool true)) (dG (kPl oAbs) [dG (kPl oInt) [dPk 2]]) [2]) [some (.fz (scriptD ns)), some (.fz (.int sd)), y] (.own (.lst ((ns.map PyData.int).map fun d => match d with
      | .int i => .fz (.int (i.natAbs : Nat))
      | _ => .fz .none))) := by
    refine yq_lc0 [some (.fz (scriptD ns)), some (.fz (.int sd)), none] _ it (fun d hd => ?_) (by simpa using hy)
    obtain ⟨n, _, rfl⟩ := List.mem_map.mp hd
    exact ⟨[some (.fz (scriptD ns)), some (.fz (.int sd)), some (.fz (.int n))], rfl, yq_abs (yq_int (yq_pk rfl)), rfl⟩
  have e1 : ((ns.map PyData.int).map fun d => match d with
      | .int i => (.fz (.int (i.natAbs : Nat)) : M)
      | _ => .fz .none) = ((ns.map fun i => ((i.natAbs : Nat) : Int)).map PyData.int).map M.fz := by simp
  rw [e1] at lc
  have fr := yq_fr lc (frz_lst _)
  refine ⟨⟨ns.map fun i => ((i.natAbs : Nat) : Int), -1, 0, sd⟩, ⟨Int.le_refl _, Int.le_refl _, h3, h4, fun c hc => ?_⟩, out_ret (yq_Fn (ys_cons fr (ys_cons (yq_neg yq_lit) (ys_cons yq_lit (ys_cons (yq_tk rfl) ys_nil)))) rfl)⟩
  obtain ⟨n, _, rfl⟩ := List.mem_map.mp hc
  exact Int.natCast_nonneg _
end Q

set_option Elab.async false
set_option linter.all false
set_option maxRecDepth 100000
set_option maxHeartbeats 4000000
/-! What draws change: evaluations that lend the draw. -/
namespace Q
open PySem PySem.Spec PyProof.Rows L2

/-- f in the frame e: a value that P tells, the draw goes on -/
def DV (f : Ev → Res) (e : Dr → Ev) (P : Val → Prop) : Prop := ∀ D, Dr.Ok D → ∃ x D2 q, Dr.Ok D2 ∧ P x ∧ f (e D) = .ok x (e D2) q
def DVs (fs : List (Ev → Res)) (e : Dr → Ev) (P : List M → Prop) : Prop := ∀ D, Dr.Ok D → ∃ ms D2 q, Dr.Ok D2 ∧ P ms ∧ evs fs (e D) = .ok (ms.map .own) (e D2) q
abbrev Is (d : PyData) : Val → Prop := fun x => x = .own (.fz d)
section
variable {e : Dr → Ev} {f g : Ev → Res} {fs : List (Ev → Res)} {P P' : Val → Prop} {R R' : List M → Prop}
theorem dv_q {x : Val} (h : ∀ D, Dr.Ok D → YQ f (e D) x) : DV f e (· = x) := fun D ok => by
  obtain ⟨q, h1, _⟩ := h D ok
  exact ⟨x, D, q, ok, rfl, h1⟩
theorem DV.imp (h : DV f e P) (k : ∀ x, P x → P' x) : DV f e P' := fun D ok => by
  obtain ⟨x, D2, q, h1, h2, h3⟩ := h D ok
  exact ⟨x, D2, q, h1, k x h2, h3⟩
theorem DVs.imp (h : DVs fs e R) (k : ∀ x, R x → R' x) : DVs fs e R' := fun D ok => by
  obtain ⟨x, D2, q, h1, h2, h3⟩ := h D ok
  exact ⟨x, D2, q, h1, k x h2, h3⟩
theorem dvs_nil : DVs [] e (· = []) := fun D ok => ⟨[], D, .p, ok, rfl, rfl⟩
theorem dvs_cons {P : M → Prop} (h1 : DV f e fun x => ∃ m, x = .own m ∧ P m) (h2 : DVs fs e R) : DVs (f :: fs) e fun ms => ∃ m r, ms = m :: r ∧ P m ∧ R r := fun D ok => by
  obtain ⟨x, D2, q, ok2, ⟨m, rfl, p⟩, e1⟩ := h1 D ok
  obtain ⟨r, D3, q2, ok3, p2, e2⟩ := h2 D2 ok2
  refine ⟨m :: r, D3, q.j q2, ok3, ⟨m, r, rfl, p, p2⟩, ?_⟩
  unfold evs
  rw [e1]
  simp only [e2]
  cases q2 <;> rfl
theorem dv_G {k : List Val → Option (Val × Bool)} (h : DVs fs e R) (hk : ∀ ms, R ms → ∃ y b, k (ms.map .own) = some (y, b) ∧ P y) : DV (dG k fs) e P := fun D ok => by
  obtain ⟨ms, D2, q, ok2, p, e1⟩ := h D ok
  obtain ⟨y, b, k1, py⟩ := hk ms p
  exact ⟨y, D2, q.f b, ok2, py, by unfold dG; rw [e1]; simp only [k1]⟩
theorem dv_F {qf : Ql → Ql} {k : List Val → Option Val} (h : DVs fs e R) (hk : ∀ ms, R ms → ∃ y, k (ms.map .own) = some y ∧ P y) : DV (dF qf k fs) e P := fun D ok => by
  obtain ⟨ms, D2, q, ok2, p, e1⟩ := h D ok
  obtain ⟨y, k1, py⟩ := hk ms p
  exact ⟨y, D2, qf q, ok2, py, by unfold dF; rw [e1]; simp only [k1]⟩
theorem dv_fr (h : DV f e fun x => ∃ m d, x = .own m ∧ frz m = some d ∧ P (.own (.fz d))) : DV (dFr f) e P := fun D ok => by
  obtain ⟨x, D2, q, ok2, ⟨m, d, rfl, h1, h2⟩, e1⟩ := h D ok
  exact ⟨_, D2, q, ok2, h2, by unfold dFr; rw [e1]; simp only [h1]⟩
/-- one more below m -/
theorem dv_take {s : Nat} {m : Int} (hs : ∀ D, (e D)[s]? = some (some D.m)) (hset : ∀ D D2, (e D).set s (some D2.m) = e D2) (h : DV g e (Is (.int m))) (h1 : 1 ≤ m) (hl : m.natAbs.log2 < 9000) :
    DV (dCallI 3 takeDen [.io s, .v g]) e fun x => ∃ i : Int, x = .own (.fz (.int i)) ∧ 0 ≤ i ∧ i < m := fun D ok => by
  obtain ⟨x, D2, q, ok2, px, e1⟩ := h D ok
  subst px
  obtain ⟨i, D3, i1, i2, ok3, e3⟩ := take_den ok2 h1 hl
  refine ⟨_, D3, .l, ok3, ⟨i, rfl, i1, i2⟩, ?_⟩
  have hlen : s < (e D2).length := by
    have := hs D2
    obtain ⟨q, _⟩ := List.getElem?_eq_some_iff.mp this
    exact q
  have ev : evs (vparts [.io s, .v g]) (e D) = .ok [.own (.fz (.int m))] (e D2) (q.j .p) := by
    show evs [g] (e D) = _
    unfold evs
    rw [e1]
    simp only [evs]
  unfold dCallI
  have hh : heldAll (e D) [.io s, .v g] = true := by
    simp only [heldAll, ioOf, List.all_cons, List.all_nil, Bool.and_true, held1, hs D]
  rw [if_pos hh]
  unfold dCallIo
  rw [ev]
  have st : startE 3 (mergeM [.io s, .v g] [.fz (.int m)] D2.m) = tkE D2 m none := rfl
  simp only [owns, ioOf, hs D2, Option.map_some, st, e3, backR, ioPos]
  simp only [tkE, List.getElem?_cons_zero, if_pos hlen, hset]
/-- rows of drawn things -/
inductive All2 {α β : Type} (R : α → β → Prop) : List α → List β → Prop
  | nil : All2 R [] []
  | cons {a : α} {b : β} {as : List α} {bs : List β} : R a b → All2 R as bs → All2 R (a :: as) (b :: bs)
theorem runC_d {p : Tg} {vs : List Nat} (e1 : PyData → Dr → Ev) (P : PyData → M → Prop) : ∀ {ds : List PyData}, (∀ d ∈ ds, (∀ D, p d (e D) = some (e1 d D)) ∧ (DV f (e1 d) fun x => ∃ m, x = .own m ∧ P d m) ∧ ∀ D, wipeE (e1 d D) vs = e D) →
    ∀ D, Dr.Ok D → ∃ ms D2 q, Dr.Ok D2 ∧ All2 P ds ms ∧ runC p (dLit (.bool true)) f vs ds (e D) = some (ms, e D2, q)
  | [], _, D, ok => ⟨[], D, .p, ok, .nil, rfl⟩
  | d :: ds, h, D, ok => by
    obtain ⟨h1, h2, h3⟩ := h d List.mem_cons_self
    obtain ⟨x, D2, q, ok2, ⟨m, rfl, pm⟩, e2⟩ := h2 D ok
    obtain ⟨ms, D3, q3, ok3, a3, e3⟩ := runC_d e1 P (ds := ds) (fun y hy => h y (List.mem_cons_of_mem _ hy)) D2 ok2
    refine ⟨m :: ms, D3, (Ql.p.j q).j q3, ok3, .cons pm a3, ?_⟩
    unfold runC
    simp only [h1, dLit, e2, h3, e3, Option.map_some]
theorem dv_lc {p : Tg} {src : Ev → Res} {vs : List Nat} {ds : List PyData} (e0 : Dr → Ev) (e1 : PyData → Dr → Ev) (P : PyData → M → Prop) (hs : DV src e (Is (.list ds)))
    (he : ∀ d ∈ ds, (∀ D, p d (e0 D) = some (e1 d D)) ∧ (DV f (e1 d) fun x => ∃ m, x = .own m ∧ P d m) ∧ ∀ D, wipeE (e1 d D) vs = e0 D) (hc : ∀ D, vs.all (calmAt (e D)) = true := by intro _; rfl) (hw : ∀ D, wipeE (e D) vs = e0 D := by intro _; rfl) (hr : ∀ D D2, restE (e0 D2) (e D) vs = e D2 := by intro _ _; rfl) :
    DV (dLc p src (dLit (.bool true)) f vs) e fun x => ∃ ms, x = .own (.lst ms) ∧ All2 P ds ms := fun D ok => by
  obtain ⟨x, D2, q, ok2, px, h1⟩ := hs D ok
  subst px
  obtain ⟨ms, D3, q3, ok3, a3, h3⟩ := runC_d (e := e0) e1 P he D2 ok2
  refine ⟨_, D3, (q.j q3).n, ok3, ⟨ms, rfl, a3⟩, ?_⟩
  unfold dLc
  rw [h1]
  simp only [hc, if_true, hw, h3, hr]
end
end Q

set_option Elab.async false
set_option linter.all false
set_option maxRecDepth 100000
set_option maxHeartbeats 4000000
/-! Tests of data. -/
namespace Q
open PySem PySem.Spec PyProof.Rows L2
mutual
def noDict : PyData → Bool
  | .dict _ => false
  | .list ds => noDicts ds
  | .tuple ds => noDicts ds
  | _ => true
def noDicts : List PyData → Bool
  | [] => true
  | d :: ds => noDict d && noDicts ds
end
theorem noDicts_mem : ∀ {ds : List PyData}, noDicts ds = true → ∀ d ∈ ds, noDict d = true
  | [], _, _, h => nomatch h
  | d :: ds, h, x, hx => by
    unfold noDicts at h
    rw [Bool.and_eq_true] at h
    rcases List.mem_cons.mp hx with e | hx
    · rw [e]; exact h.1
    · exact noDicts_mem h.2 x hx
def isWh : PyData → Bool
  | .int _ => true
  | _ => false
theorem isi_d {t : Ty} {d : PyData} (h : noDict d = true) : ∃ b, isiD t d = some b := by
  cases d <;> first | exact ⟨_, rfl⟩ | (unfold noDict at h; cases h)
def isTup : PyData → Bool
  | .tuple _ => true
  | _ => false
theorem isi_tup {d : PyData} (h : noDict d = true) : isiV .tuple (.own (.fz d)) = some (isTup d) := by
  cases d <;> first | rfl | (unfold noDict at h; cases h)
def inR (lo hi : Int) : PyData → Bool
  | .int i => decide (lo ≤ i) && decide (i ≤ hi)
  | _ => false
theorem yq_chain {p1 p2 : Int → Int → Bool} {f g h : Ev → Res} {env : Ev} {i j k : Int} (h1 : YQ f env (.own (.fz (.int i)))) (h2 : YQ g env (.own (.fz (.int j)))) (h3 : p1 i j = true → YQ h env (.own (.fz (.int k)))) : YQ (dChain p1 p2 f g h) env (.own (.fz (.bool (p1 i j && p2 j k)))) := by
  obtain ⟨q, e, n⟩ := y2 h1 h2
  cases hp : p1 i j with
  | false => exact ⟨q, by simp only [dChain, e, int2, hp, Bool.false_and], n⟩
  | true =>
    obtain ⟨q3, e3, n3⟩ := h3 hp
    exact ⟨q.j q3, by simp only [dChain, e, int2, hp, e3, isInt, Bool.true_and], jnl n n3⟩
theorem boolsD_map (b : PyData → Bool) (ds : List PyData) : boolsD (ds.map fun d => .bool (b d)) = some (ds.map b) := by
  induction ds with
  | nil => rfl
  | cons d ds ih => simp [boolsD, ih]
/-- all([b(d) for d in src]) -/
theorem yq_all {p : Tg} {src f : Ev → Res} {vs : List Nat} {env : Ev} {ds : List PyData} (env0 : Ev) (b : PyData → Bool) (hs : YQ src env (.own (.fz (.list ds))))
    (he : ∀ d ∈ ds, ∃ e1, p d env0 = some e1 ∧ YQ f e1 (.own (.fz (.bool (b d)))) ∧ wipeE e1 vs = env0) (hc : vs.all (calmAt env) = true := by rfl) (hw : wipeE env vs = env0 := by rfl) (hr : restE env0 env vs = env := by rfl) :
    YQ (dG (kPl oAll) [dLc p src (dLit (.bool true)) f vs]) env (.own (.fz (.bool (ds.all b)))) := by
  have l := yq_lc0 env0 (fun d => .fz (.bool (b d))) hs he hc hw hr
  have e : ds.map (fun d => (.fz (.bool (b d)) : M)) = (ds.map fun d => PyData.bool (b d)).map M.fz := by simp
  rw [e] at l
  refine yq_G (b := false) (ys_cons l ys_nil) ?_
  have h1 : valDs [Val.own (.lst ((ds.map fun d => PyData.bool (b d)).map M.fz))] = some [.list (ds.map fun d => PyData.bool (b d))] := by
    simp only [valDs, valD, frz_lst, Option.bind_some, Option.map_some]
  simp only [kPl, h1, Option.bind_some, oAll, boolsD_map, Option.map_some, List.all_map]
  rfl
/-! ### a def's course -/
section
variable {t f : Ev → Res} {rest a b : Ev → Out} {env : Ev} {c : Bool} {d : PyData} {m : M} {i : Nat}
theorem og (ht : YQ t env (.own (.fz (.bool c)))) : outR (dSeq (dIfS t (dRet (dLit d)) dNx) rest env) = if c = true then .ret (.fz d) else outR (rest env) := by
  cases c with
  | true => rw [out_seq_ret (by rw [out_if ht, if_pos rfl]; rfl)]; rfl
  | false => rw [out_seq (by rw [out_if ht]; rfl)]; rfl
theorem oif (ht : YQ t env (.own (.fz (.bool c)))) : outR (dIfS t a b env) = if c = true then outR (a env) else outR (b env) := by
  rw [out_if ht]; cases c <;> rfl
theorem oset (h : YQ f env (.own m)) (hi : i < env.length) : outR (dSeq (dSet i f) rest env) = outR (rest (env.set i (some m))) := by rw [out_seq (out_set h hi)]
theorem oex {x : Val} (h : YQ f env x) : outR (dSeq (dEx f) rest env) = outR (rest env) := by rw [out_seq (out_ex h)]
theorem oexx {x : Exn} {e : Ev} (h : f env = .exn x e) : outR (dSeq (dEx f) rest env) = .exn x := by
  unfold dSeq dEx; rw [h]; rfl
theorem oret {d2 : PyData} (h : YQ f env (.own (.fz d2))) : outR (dRet f env) = .ret (.fz d2) := out_ret h
theorem oretb {b1 b2 : Bool} (h : YQ f env (.own (.fz (.bool b1)))) (e : b1 = b2) : outR (dRet f env) = .ret (.fz (.bool b2)) := by rw [← e]; exact out_ret h
/-- a call that raises -/
theorem xcall {n : Nat} {den : Ev → Out} {fs : List (Ev → Res)} {xs : List Val} {ms : List M} {v : Bool} {x : Exn} (h : YQs fs env xs) (ha : argMs xs = some (ms, v)) (hr : outR (den (startE n ms)) = .exn x) : dCall n den fs env = .exn x env := by
  obtain ⟨q, e, _⟩ := h
  rw [dCall_eq, e]
  simp only [ha, hr]
end
theorem yq_call1 {n : Nat} {den : Ev → Out} {f : Ev → Res} {env : Ev} {a r : PyData} (h : YQ f env (.own (.fz a))) (hr : outR (den (startE n [.fz a])) = .ret (.fz r)) : YQ (dCall n den [f]) env (.own (.fz r)) := yq_call (y1 h) rfl rfl hr (fun z => by cases z)
theorem yq_call2 {n : Nat} {den : Ev → Out} {f g : Ev → Res} {env : Ev} {a b r : PyData} (h : YQ f env (.own (.fz a))) (h2 : YQ g env (.own (.fz b))) (hr : outR (den (startE n [.fz a, .fz b])) = .ret (.fz r)) : YQ (dCall n den [f, g]) env (.own (.fz r)) := yq_call (y2 h h2) rfl rfl hr (fun z => by cases z)
theorem y3 {f g h : Ev → Res} {env : Ev} {a b c : PyData} (h1 : YQ f env (.own (.fz a))) (h2 : YQ g env (.own (.fz b))) (h3 : YQ h env (.own (.fz c))) : YQs [f, g, h] env [.own (.fz a), .own (.fz b), .own (.fz c)] := ys_cons h1 (y2 h2 h3)
theorem yq_call3 {n : Nat} {den : Ev → Out} {f g h : Ev → Res} {env : Ev} {a b c r : PyData} (h1 : YQ f env (.own (.fz a))) (h2 : YQ g env (.own (.fz b))) (h3 : YQ h env (.own (.fz c))) (hr : outR (den (startE n [.fz a, .fz b, .fz c])) = .ret (.fz r)) : YQ (dCall n den [f, g, h]) env (.own (.fz r)) := yq_call (y3 h1 h2 h3) rfl rfl hr (fun z => by cases z)
theorem kadd_tt {a b : List PyData} (h : a.length + b.length ≤ SZ) : kAdd [.own (.fz (.tuple a)), .own (.fz (.tuple b))] = some (.own (.fz (.tuple (a ++ b))), true) := by
  have h1 : kAddP [.own (.fz (.tuple a)), .own (.fz (.tuple b))] = none := by
    unfold kAddP kPl
    simp [valDs, valD, frz]
  unfold kAdd
  rw [h1]
  simp [kAddT, tv, h]
theorem yq_addT {f g : Ev → Res} {env : Ev} {a b : List PyData} (h1 : YQ f env (.own (.fz (.tuple a)))) (h2 : YQ g env (.own (.fz (.tuple b)))) (h : a.length + b.length ≤ SZ) : YQ (dG kAdd [f, g]) env (.own (.fz (.tuple (a ++ b)))) := yq_G (y2 h1 h2) (kadd_tt h)
theorem yq_rng {f : Ev → Res} {env : Ev} {n : Int} (h : YQ f env (.own (.fz (.int n)))) (h0 : -(2 ^ 62) ≤ n) (h1 : n ≤ SZ) : YQ (dG kRng [f]) env (.own (.fz (.list (rngD 0 n.toNat)))) := yq_G (b := false) (y1 h) (by simp only [kRng, if_pos (And.intro h0 h1)])
theorem rngD_mem {n : Nat} {d : PyData} (h : d ∈ rngD 0 n) : ∃ i : Nat, i < n ∧ d = .int i := by
  unfold rngD at h
  obtain ⟨i, hi, rfl⟩ := List.mem_map.mp h
  exact ⟨i, List.mem_range.mp hi, by simp⟩
theorem rngD_map {α : Type} (f : PyData → α) (n : Nat) : (rngD 0 n).map f = (List.range n).map fun i => f (.int (i : Nat)) := by
  unfold rngD
  rw [List.map_map]
  apply List.map_congr_left
  intro i _
  simp
theorem yq_en {f : Ev → Res} {env : Ev} {m : M} {d : PyData} {ds : List PyData} (h : YQ f env (.own m)) (hd : frz m = some d) (hi : seqD d = some ds) : YQ (dEn f) env (.own (.fz (.list (enD ds)))) := by
  obtain ⟨q, e, n⟩ := yq_fr h hd
  exact ⟨q, by unfold dEn; rw [e]; simp only [hi], n⟩
theorem yq_tupOf {f : Ev → Res} {env : Ev} {x : Val} {ds : List PyData} (h : YQ f env x) (hx : seqv x = some ds) : YQ (dG kTupOf [f]) env (.own (.fz (.tuple ds))) := yq_G (b := true) (ys_cons h ys_nil) (by simp only [kTupOf, hx, Option.map_some])
theorem seqv_lst (ds : List PyData) : seqv (.own (.lst (ds.map M.fz))) = some ds := by
  unfold seqv
  have : lv (.own (.lst (ds.map M.fz))) = some ds := by
    unfold lv
    exact leaves_fz ds
  rw [this]; rfl
/-! ### shaped data: what == takes -/
def Sh (k : Nat) (d : PyData) : Prop := d.canLay0 = true ∧ d.depth ≤ k
theorem sh_int {k : Nat} {i : Int} : Sh k (.int i) := ⟨rfl, Nat.zero_le _⟩
theorem sh_bool {k : Nat} {i : Bool} : Sh k (.bool i) := ⟨rfl, Nat.zero_le _⟩
theorem sh_none {k : Nat} : Sh k .none := ⟨rfl, Nat.zero_le _⟩
theorem sh_all {k : Nat} : ∀ {ds : List PyData}, (∀ d ∈ ds, Sh k d) → PyData.canLayAll0 ds = true ∧ PyData.depthAll ds ≤ k
  | [], _ => ⟨rfl, Nat.zero_le _⟩
  | d :: ds, h => by
    obtain ⟨a, b⟩ := h d List.mem_cons_self
    obtain ⟨c, e⟩ := sh_all (k := k) (ds := ds) fun x hx => h x (List.mem_cons_of_mem _ hx)
    exact ⟨by unfold PyData.canLayAll0; rw [a, c]; rfl, by unfold PyData.depthAll; omega⟩
theorem sh_tup {k : Nat} {ds : List PyData} (h : ∀ d ∈ ds, Sh k d) : Sh (k + 1) (.tuple ds) := by
  obtain ⟨a, b⟩ := sh_all h
  exact ⟨by unfold PyData.canLay0; exact a, by unfold PyData.depth; omega⟩
theorem sh_lst {k : Nat} {ds : List PyData} (h : ∀ d ∈ ds, Sh k d) : Sh (k + 1) (.list ds) := by
  obtain ⟨a, b⟩ := sh_all h
  exact ⟨by unfold PyData.canLay0; exact a, by unfold PyData.depth; omega⟩
theorem Sh.mono {k l : Nat} {d : PyData} (h : Sh k d) (hl : k ≤ l) : Sh l d := ⟨h.1, Nat.le_trans h.2 hl⟩
theorem eqOk_sh {k : Nat} {a b : PyData} (h1 : Sh k a) (h2 : Sh k b) (hk : k ≤ 64) : eqOk a b = true := by
  have s1 : SeqAt.shaped a = true := by unfold SeqAt.shaped; rw [h1.1, decide_eq_true (Nat.le_trans h1.2 hk)]; rfl
  have s2 : SeqAt.shaped b = true := by unfold SeqAt.shaped; rw [h2.1, decide_eq_true (Nat.le_trans h2.2 hk)]; rfl
  unfold eqOk
  rw [s1, s2]; simp
theorem oNe_self {k : Nat} {a : PyData} (h : Sh k a) (hk : k ≤ 64) : oNe [a, a] = some (.bool false) := by
  simp only [oNe, eqOk_sh h h hk, if_true, SeqAt.eqv_refl a h.1]; rfl
theorem oEq_self {k : Nat} {a : PyData} (h : Sh k a) (hk : k ≤ 64) : oEq [a, a] = some (.bool true) := by
  simp only [oEq, eqOk_sh h h hk, if_true, SeqAt.eqv_refl a h.1]
theorem intsD_map (ns : List Int) : intsD (ns.map .int) = some ns := by
  induction ns with
  | nil => rfl
  | cons n ns ih => simp [intsD, ih]
theorem yq_sum {f : Ev → Res} {env : Ev} {x : Val} {ns : List Int} (h : YQ f env x) (hx : valD x = some (.list (ns.map .int))) : YQ (dG (kPl oSum) [f]) env (.own (.fz (.int ns.sum))) := yq_G (b := false) (ys_cons h ys_nil) (by
  have e : valDs [x] = some [.list (ns.map .int)] := by simp only [valDs, hx, Option.bind_some, Option.map_some]
  simp only [kPl, e, Option.bind_some, oSum, intsD_map, Option.map_some])
end Q

set_option Elab.async false
set_option linter.all false
set_option maxRecDepth 100000
set_option maxHeartbeats 4000000
/-! What draws change, row by row. -/
namespace Q
open PySem PySem.Spec PyProof.Rows L2
def RO (s : Nat) (b : Ev → Out) (env : Ev) (Q : M → Prop) : Prop := ∃ m D2 e2, Dr.Ok D2 ∧ Q m ∧ b env = .ret m e2 ∧ e2[s]? = some (some D2.m)
section
variable {e : Dr → Ev} {f g t : Ev → Res} {fs gs : List (Ev → Res)} {P P' : Val → Prop} {Q : M → Prop} {s i : Nat} {D : Dr} {a b rest : Ev → Out}
theorem do_set {P : M → Prop} (ok : Dr.Ok D) (h : DV f e fun x => ∃ m, x = .own m ∧ P m) (hi : ∀ D, i < (e D).length) (k : ∀ m D2, Dr.Ok D2 → P m → RO s rest ((e D2).set i (some m)) Q) : RO s (dSeq (dSet i f) rest) (e D) Q := by
  obtain ⟨x, D2, q, ok2, ⟨m, rfl, p⟩, h1⟩ := h D ok
  have h2 : dSet i f (e D) = .nx ((e D2).set i (some m)) := by
    unfold dSet; rw [h1]; simp only [put1, if_pos (hi D2)]
  have h3 := k m D2 ok2 p
  unfold RO at h3 ⊢
  rw [out_seq h2]
  exact h3
theorem do_asg {p : Tg} {P : PyData → Prop} {e2 : PyData → Dr → Ev} (ok : Dr.Ok D) (h : DV f e fun x => ∃ m d, x = .own m ∧ frz m = some d ∧ P d) (hp : ∀ d D, P d → p d (e D) = some (e2 d D)) (k : ∀ d D2, Dr.Ok D2 → P d → RO s rest (e2 d D2) Q) : RO s (dSeq (dAsg p f) rest) (e D) Q := by
  obtain ⟨x, D2, q, ok2, ⟨m, d, rfl, hm, hd⟩, h1⟩ := h D ok
  have h2 : dAsg p f (e D) = .nx (e2 d D2) := by
    unfold dAsg dFr; rw [h1]; simp only [hm, hp d D2 hd]
  have h3 := k d D2 ok2 hd
  unfold RO at h3 ⊢
  rw [out_seq h2]
  exact h3
theorem do_if {P : Bool → Prop} (ok : Dr.Ok D) (h : DV t e fun x => ∃ b, x = .own (.fz (.bool b)) ∧ P b) (h1 : ∀ D, Dr.Ok D → P true → RO s a (e D) Q) (h2 : ∀ D, Dr.Ok D → P false → RO s rest (e D) Q) : RO s (dSeq (dIfS t a dNx) rest) (e D) Q := by
  obtain ⟨x, D2, q, ok2, ⟨c, rfl, p⟩, e1⟩ := h D ok
  cases c with
  | true =>
    obtain ⟨m, D3, e3, ok3, q3, r3, s3⟩ := h1 D2 ok2 p
    refine ⟨m, D3, e3, ok3, q3, ?_, s3⟩
    unfold dSeq dIfS
    rw [e1]
    simp only [r3]
  | false =>
    obtain ⟨m, D3, e3, ok3, q3, r3, s3⟩ := h2 D2 ok2 p
    refine ⟨m, D3, e3, ok3, q3, ?_, s3⟩
    unfold dSeq dIfS
    rw [e1]
    simp only [dNx, r3]
theorem do_ret (ok : Dr.Ok D) (h : DV f e fun x => ∃ m, x = .own m ∧ Q m) (hs : ∀ D, (e D)[s]? = some (some D.m)) : RO s (dRet f) (e D) Q := by
  obtain ⟨x, D2, q, ok2, ⟨m, rfl, p⟩, e1⟩ := h D ok
  exact ⟨m, D2, e D2, ok2, p, by unfold dRet; rw [e1], hs D2⟩
theorem vparts_v : ∀ {gs : List (Ev → Res)}, vparts (gs.map Arg.v) = gs
  | [] => rfl
  | g :: gs => congrArg (g :: ·) vparts_v
theorem ioOf_v : ∀ {gs : List (Ev → Res)}, ioOf (gs.map Arg.v) = []
  | [] => rfl
  | g :: gs => by show ioOf (gs.map Arg.v) = []; exact ioOf_v
theorem owns_own : ∀ (ms : List M), owns (ms.map .own) = some ms
  | [] => rfl
  | m :: ms => by
    have := owns_own ms
    simp only [List.map_cons, owns, this, Option.map_some]
theorem merge_v : ∀ {gs : List (Ev → Res)} {ms : List M} {x : M}, ms.length = gs.length → mergeM (gs.map Arg.v) ms x = ms
  | [], [], x, _ => rfl
  | [], m :: ms, x, h => by cases h
  | g :: gs, [], x, h => by cases h
  | g :: gs, m :: ms, x, h => by
    have := merge_v (gs := gs) (ms := ms) (x := x) (Nat.succ.inj h)
    show m :: mergeM (gs.map Arg.v) ms x = _
    rw [this]
/-- a call that lends the draw (its first argument) -/
theorem dv_io {n : Nat} {den : Ev → Out} {ms : List M} {as : List Arg} (has : as = .io s :: gs.map .v) (hs : ∀ D, (e D)[s]? = some (some D.m)) (hset : ∀ D D2, (e D).set s (some D2.m) = e D2) (h : DVs gs e (· = ms))
    (hc : ∀ D, Dr.Ok D → RO 0 den (startE n (D.m :: ms)) Q) : DV (dCallI n den as) e fun x => ∃ m, x = .own m ∧ Q m := fun D ok => by
  subst has
  obtain ⟨ms', D2, q, ok2, rfl, e1⟩ := h D ok
  obtain ⟨m, D3, e3, ok3, q3, r3, s3⟩ := hc D2 ok2
  refine ⟨_, D3, .l, ok3, ⟨m, rfl, q3⟩, ?_⟩
  have hlen : s < (e D2).length := by
    obtain ⟨q, _⟩ := List.getElem?_eq_some_iff.mp (hs D2)
    exact q
  have ev : evs (vparts (.io s :: gs.map .v)) (e D) = .ok (ms'.map .own) (e D2) q := by
    show evs (vparts (gs.map .v)) (e D) = _
    rw [vparts_v]; exact e1
  have hio : ioOf (.io s :: gs.map Arg.v) = [s] := by
    show s :: ioOf (gs.map Arg.v) = [s]
    rw [ioOf_v]
  unfold dCallI
  have hh : heldAll (e D) (.io s :: gs.map .v) = true := by
    simp only [heldAll, hio, List.all_cons, List.all_nil, Bool.and_true, held1, hs D]
  rw [if_pos hh]
  unfold dCallIo
  rw [ev]
  have st : startE n (mergeM (.io s :: gs.map .v) ms' D2.m) = startE n (D2.m :: ms') := by
    show startE n (D2.m :: mergeM (gs.map .v) ms' D2.m) = _
    rw [merge_v (by have := evs_len e1; rw [List.length_map] at this; exact this)]
  simp only [owns_own, hio, hs D2, st, r3, backR, ioPos, s3, if_pos hlen, hset]
theorem dv_if {P : Val → Prop} {T : Bool → Prop} (h : DV t e fun x => ∃ b, x = .own (.fz (.bool b)) ∧ T b) (h1 : T true → DV f e P) (h2 : T false → DV g e P) : DV (dIf t f g) e P := fun D ok => by
  obtain ⟨x, D2, q, ok2, ⟨c, rfl, p⟩, e1⟩ := h D ok
  cases c with
  | true =>
    obtain ⟨y, D3, q3, ok3, q4, r3⟩ := h1 p D2 ok2
    exact ⟨y, D3, _, ok3, q4, by unfold dIf; rw [e1]; simp only [r3]; rfl⟩
  | false =>
    obtain ⟨y, D3, q3, ok3, q4, r3⟩ := h2 p D2 ok2
    exact ⟨y, D3, _, ok3, q4, by unfold dIf; rw [e1]; simp only [r3]; rfl⟩
/-- ints drawn -/
abbrev IsI (P : Int → Prop) : Val → Prop := fun x => ∃ m, x = .own m ∧ ∃ i : Int, m = .fz (.int i) ∧ P i
theorem dv_lit {d : PyData} {P : M → Prop} (h : P (.fz d)) : DV (dLit d) e fun x => ∃ m, x = .own m ∧ P m := (dv_q fun _ _ => yq_lit).imp fun x hx => ⟨_, hx, h⟩
theorem dv_own {m : M} {P : M → Prop} (h : ∀ D, Dr.Ok D → YQ f (e D) (.own m)) (p : P m) : DV f e fun x => ∃ m, x = .own m ∧ P m := (dv_q h).imp fun x hx => ⟨_, hx, p⟩
theorem dvs_is1 {m : M} (h : DV f e (· = .own m)) : DVs [f] e (· = [m]) := (dvs_cons (P := (· = m)) (h.imp fun x hx => ⟨m, hx, rfl⟩) dvs_nil).imp fun x ⟨a, r, h1, h2, h3⟩ => by rw [h1, h2, h3]
theorem dvs_is {m : M} {ms : List M} (h : DV f e (· = .own m)) (h2 : DVs fs e (· = ms)) : DVs (f :: fs) e (· = m :: ms) := (dvs_cons (P := (· = m)) (h.imp fun x hx => ⟨m, hx, rfl⟩) h2).imp fun x ⟨a, r, h1, h2, h3⟩ => by rw [h1, h2, h3]
theorem dv_tk {m : Int} (hs : ∀ D, (e D)[s]? = some (some D.m)) (hset : ∀ D D2, (e D).set s (some D2.m) = e D2) (h : DV g e (Is (.int m))) (h1 : 1 ≤ m) (hl : m.natAbs.log2 < 9000) :
    DV (dCallI 3 takeDen [.io s, .v g]) e (IsI fun i => 0 ≤ i ∧ i < m) := (dv_take hs hset h h1 hl).imp fun x ⟨i, hx, h0⟩ => ⟨_, hx, i, rfl, h0⟩
theorem dv_eq0 {P : Int → Prop} (h : DV f e (IsI P)) : DV (dG (kPl oEq) [f, dLit (.int 0)]) e fun x => ∃ b, x = .own (.fz (.bool b)) ∧ True :=
  dv_G (dvs_cons h (dvs_is1 (dv_q fun _ _ => yq_lit))) fun ms ⟨m, r, e1, ⟨i, e2, _⟩, e3⟩ => by
    subst e1 e2 e3
    exact ⟨_, false, kpl2 (d := .bool (decide (i = 0))) (by
      simp only [oEq]; first | rfl | simp), _, rfl, trivial⟩
theorem dv_add1 {P P' : Int → Prop} (h : DV f e (IsI P)) (k : ∀ i, P i → P' (1 + i)) : DV (dG kAdd [dLit (.int 1), f]) e (IsI P') :=
  dv_G (dvs_cons (dv_lit (P := (· = .fz (.int 1))) rfl) (dvs_cons h dvs_nil)) fun ms ⟨m, r, e1, e4, m2, r2, e5, ⟨i, e2, p⟩, e3⟩ => by
    subst e1 e4 e5 e2 e3
    exact ⟨.own (.fz (.int (1 + i))), false, rfl, _, rfl, _, rfl, k i p⟩
end
end Q

set_option Elab.async false
set_option linter.all false
set_option maxRecDepth 100000
set_option maxHeartbeats 4000000
/-! More forms: name op= e (ints). -/
namespace Q
open PySem PySem.Spec PyProof.Rows L2
def dAug (i : Nat) (o : Int → Int → Option Int) (f : Ev → Res) : Ev → Out := fun env => match env[i]? with
  | some (some (.fz (.int a))) => (match f env with
    | .ok (.own (.fz (.int b))) e1 _ => (match o a b with
      | some c => put1 i (.fz (.int c)) e1
      | none => .stuck)
    | .ok _ _ _ => .stuck
    | .exn c e => .exn c e
    | .stuck => .stuck)
  | _ => .stuck
def ipO (o : Int → Int → Option Int) : TIp := fun x y H Q => ∃ i j c, x = .int i ∧ y = .int j ∧ o i j = some c ∧ Q (.int c) H
section
variable {X : Cx} {io : Nat → Bool} {f : Ev → Res} {e : Expr} {pos : Pos}
theorem ip_addO : PIp X .Add (ipO fun i j => some (i + j)) := fun pins s σ H x y v u Q I r1 r2 ⟨i, j, c, e1, e2, e3, q⟩ => ip_add pins s σ H x y v u Q I r1 r2 ⟨i, j, e1, e2, by cases e3; exact q⟩
theorem ip_subO : PIp X .Sub (ipO fun i j => some (i - j)) := fun pins s σ H x y v u Q I r1 r2 ⟨i, j, c, e1, e2, e3, q⟩ => ip_sub pins s σ H x y v u Q I r1 r2 ⟨i, j, e1, e2, by cases e3; exact q⟩
theorem ip_mulO : PIp X .Mult (ipO fun i j => if mulOk i j = true then some (i * j) else none) := fun pins s σ H x y v u Q I r1 r2 ⟨i, j, c, e1, e2, e3, q⟩ => by
  subst e1; subst e2
  by_cases hm : mulOk i j = true
  case neg => simp only [if_neg hm] at e3; cases e3
  simp only [if_pos hm] at e3
  cases e3
  obtain ⟨t, rfl⟩ := r1
  obtain ⟨t', rfl⟩ := r2
  exact PyProof.Rows.imul_int ⟨.int _, H, I.tok _, ⟨_, rfl⟩, q⟩ (CMulW.ok (of_decide_eq_true (show decide (i.natAbs.log2 + j.natAbs.log2 < 1000000) = true from hm) : i.natAbs.log2 + j.natAbs.log2 < 1000000))
theorem ss_aug {op : Operator} {o : Int → Int → Option Int} {i : Nat} {x : Str} {pos' : Pos} (ho : PIp X op (ipO o)) (hN : X.N.Nodup) (hi : X.N[i]? = some x) (hx : Loc X.env.scope x) (he : SE X f e) (hio : io i = false := by rfl) (hf : X.fn x = true ∨ X.env.scope.names.lookup x = some .local := by first | exact .inl rfl | exact .inr rfl | assumption) :
    SS X io (dAug i o f) (.AugAssign (.Name x pos') op e pos) := fun W tk => PS.imp (ps_aug hN hi hx (he W tk) ho hf) fun D σ H ⟨Z, O, env, I, h⟩ => by
  unfold dAug at h
  cases e0 : env[i]? with
  | none => rw [e0] at h; exact h.elim
  | some y =>
    rw [e0] at h
    cases y with
    | none => exact h.elim
    | some m =>
      cases m with
      | fz d =>
        cases d with
        | int a =>
          obtain ⟨v, F, e1, r, _⟩ := I.get e0
          have hv : v = .int a := by
            cases r with
            | fz r => exact r.intI
          subst hv
          refine ⟨.int a, e1, Z, O, env, I, ?_⟩
          simp only [] at h
          cases ef : f env with
          | stuck => rw [ef] at h; exact h
          | exn c e1 => rw [ef] at h; exact EndS.exn h
          | ok y e1 q =>
            rw [ef] at h
            cases y with
            | vw m => exact h.elim
            | own m =>
              cases m with
              | fz d =>
                cases d with
                | int b =>
                  simp only [] at h
                  cases eo : o a b with
                  | none => rw [eo] at h; exact h.elim
                  | some c =>
                    rw [eo] at h
                    simp only [put1] at h
                    split at h
                    · rename_i hl
                      intro v H' p
                      obtain ⟨O', F, I', r, nd, nz, st⟩ := p.own1
                      have hF : F = [] ∧ v = .int b := by
                        cases r with
                        | fz r => exact ⟨rfl, r.intI⟩
                      obtain ⟨rfl, rfl⟩ := hF
                      refine ⟨a, b, c, rfl, rfl, eo, ?_⟩
                      obtain ⟨O2, I2, st2⟩ := I'.put hl (m := .fz (.int c)) (.fz (.int c)) nd nz st
                      exact h _ _ ⟨⟨O2, I2, st2⟩, Held.set hio⟩
                    · exact h.elim
                | none => exact h.elim
                | bool _ => exact h.elim
                | str _ => exact h.elim
                | list _ => exact h.elim
                | tuple _ => exact h.elim
                | dict _ => exact h.elim
              | lst _ => exact h.elim
              | tup _ => exact h.elim
              | dK _ _ => exact h.elim
              | dT _ _ => exact h.elim
        | none => exact h.elim
        | bool _ => exact h.elim
        | str _ => exact h.elim
        | list _ => exact h.elim
        | tuple _ => exact h.elim
        | dict _ => exact h.elim
      | lst _ => exact h.elim
      | tup _ => exact h.elim
      | dK _ _ => exact h.elim
      | dT _ _ => exact h.elim
theorem aug_ {op : Operator} {o : Int → Int → Option Int} {x : Str} {pos' : Pos} (ho : PIp X op (ipO o)) (i : Nat) (nd : X.N.Nodup) (he : SE X f e) (hi : X.N[i]? = some x := by rfl) (hx : Loc X.env.scope x := by first | exact Or.inl rfl | exact Or.inr rfl) (hio : io i = false := by rfl) (hf : X.fn x = true ∨ X.env.scope.names.lookup x = some .local := by first | exact .inl rfl | exact .inr rfl) :
    SS X io (dAug i o f) (.AugAssign (.Name x pos') op e pos) := ss_aug ho nd hi hx he hio hf
end
end Q

set_option Elab.async false
set_option linter.all false
set_option maxRecDepth 100000
set_option maxHeartbeats 4000000
/-! More forms: x.append(e) on an owned list. -/
namespace Q
open PySem PySem.Spec PyProof.Rows L2
def isLst (e : Ev) (s : Nat) : Bool := match e[s]? with
  | some (some (.lst _)) => true
  | _ => false
def appD (d : PyData) (ms : List M) : Option (List M) := if ms.length < SZ then some (ms ++ [.fz d]) else none
def dApp (s : Nat) (f : Ev → Res) : Ev → Res := fun env => if isLst env s = true then (match dFr f env with
  | .ok (.own (.fz d)) e1 _ => (match wrAt s [] (appD d) e1 with
    | some e2 => .ok (.own (.fz .none)) e2 .l
    | none => .stuck)
  | .ok _ _ _ => .stuck
  | .exn c e => .exn c e
  | .stuck => .stuck) else .stuck
section
variable {K : PySem.W.Frag} {H : Hp} {G : Addr → Prop}
theorem RMs.snoc {xs : List V} {ms : List M} {F : List Addr} {v : V} {d : PyData} (r : RMs K H G xs ms F) (h : RF K H G v d) : RMs K H G (xs ++ [v]) (ms ++ [.fz d]) F := by
  have := r.app (F' := []) (.fz h)
  rwa [List.append_nil] at this
theorem SI.app_at {Z : Addr → Prop} {O : List Addr} {env e' : Ev} {σ : L2.St} {s : Nat} {d : PyData} {v : V} (I : SI K Z O env σ H) (r : RF K H (fun a => ¬ Z a ∧ a ∉ O) v d) (h : wrAt s [] (appD d) env = some e') :
    ∃ w a xs, σ[s]? = some (some w) ∧ Way K H w [] a ∧ H a = some (.lst xs) ∧ xs.length < SZ ∧ ∃ O2, SI K Z O2 e' σ (upd H a (.lst (xs ++ [v]))) ∧ Step O H O2 [] (upd H a (.lst (xs ++ [v]))) := by
  obtain ⟨m, m', em, ew, rfl⟩ := wrAt_some h
  obtain ⟨w, a, xs, ms, Fr, ms', h1, wy, ha, aO, rms, ef, frO, nr, go⟩ := SI.wr (F := []) (by rw [Zp_nil]; exact I) em ew
  unfold appD at ef
  split at ef
  case isFalse => cases ef
  rename_i hl
  cases ef
  obtain ⟨O2, I2, st2⟩ := go (O0 := O) (H0 := H) ((rms.imp (G' := fun a => ¬ Z a ∧ a ∉ O ∧ a ∉ ([] : List Addr)) fun a g => ⟨fun z => g.1 (.inl z), g.2, fun z => nomatch z⟩).snoc (r.imp fun a g => ⟨g.1, g.2, fun z => nomatch z⟩)) nr (fun b hb => .inl hb) (fun _ z => nomatch z) Step.refl
  exact ⟨w, a, xs, h1, wy, ha, by rw [rms.length]; exact hl, O2, I2, st2⟩
end
section
variable {X : Cx} {f : Ev → Res} {e : Expr} {px apos cpos : Pos}
theorem se_app {s : Nat} {x : Str} (hN : X.N[s]? = some x) (hv : Vis X.env.scope x) (he : SE X f e) (hd : (x == ("__debug__" : Str)) = false := by decide) (hcd : (x == ("__classdict__" : Str)) = false := by decide)
    (hbase : attributeBase (.Name x px) "append" X.env (eval (.Name x px) X.env) = eval (.Name x px) X.env := by rfl)
    (hfew : ((backTo cpos (starEach [e] X.env)).all (fun x => !x.1) && (backToKw cpos (keywordEach [] X.env)).all (fun x => x.1.isSome)
      && decide ([e].length + ([] : List Keyword).length + (if ([] : List Keyword).isEmpty then 0 else 1) < 30)) = true := by rfl)
    (hline : (apos.endLine == cpos.line) = true := by rfl) (hs : starEach [e] X.env = (false, eval e X.env) :: starEach [] X.env := by rfl) (hplain : (backTo cpos (starEach ([] : List Expr) X.env)).any (·.1) = false := by rfl) :
    SE X (dApp s f) (.Call (.Attribute (.Name x px) "append" apos) [e] [] cpos) := fun W tk => by
  refine PE.imp (pe_bm PySem.F.plainAttrs_list PySem.F.slot_list_append PySem.F.type_list_append mt_append (pe_var hN hv hd hcd) (pa_cons (se_fr he W tk) pa_nil hs) hbase hfew hline hs hplain) fun σ H Q ⟨Z, O, env, I, h⟩ => ?_
  unfold dApp at h
  by_cases hl : isLst env s = true
  case neg => rw [if_neg hl] at h; exact h.elim
  rw [if_pos hl] at h
  unfold isLst at hl
  split at hl
  case h_2 => cases hl
  rename_i ms em
  obtain ⟨w, F, h1, r, _⟩ := I.get em
  have rw0 : ∃ a xs, w = .ref a ∧ H a = some (.lst xs) := by
    cases r with
    | lst ha _ => exact ⟨_, _, rfl, ha⟩
  obtain ⟨a0, xs0, rfl, ha0⟩ := rw0
  refine ⟨.ref a0, h1, .inl ⟨rfl, xs0, .inl (.inl ha0)⟩, Z, O, env, I, ?_⟩
  cases ef : dFr f env with
  | stuck => rw [ef] at h; exact h
  | exn c e1 => rw [ef] at h; exact h
  | ok y e1 q =>
    rw [ef] at h
    cases y with
    | vw m => exact h.elim
    | own m =>
      cases m with
      | fz d =>
        simp only [] at h
        cases eo : wrAt s [] (appD d) e1 with
        | none => rw [eo] at h; exact h.elim
        | some e2 =>
          rw [eo] at h
          intro v H1 p1
          obtain ⟨O1, I1, r1, st1, _⟩ := p1.fz1
          obtain ⟨w', a, xs, h1', wy, ha2, hlen, O2, I2, st2⟩ := SI.app_at I1 r1 eo
          rw [h1] at h1'; cases h1'
          cases wy
          refine ⟨a0, xs, v, rfl, rfl, ha2, hlen, h _ _ ⟨⟨O2, [], ?_⟩⟩⟩
          exact ⟨by rw [Zp_nil]; exact I2, .own (.fz .non) .nil, List.Pairwise.nil, (fun _ z => nomatch z), st1.tr0 st2, (fun z => absurd rfl z), fun z => by cases z⟩
      | lst _ => exact h.elim
      | tup _ => exact h.elim
      | dK _ _ => exact h.elim
      | dT _ _ => exact h.elim
theorem app_ (s : Nat) {x : Str} (he : SE X f e) (hN : X.N[s]? = some x := by rfl) (hv : Vis X.env.scope x := by first | exact Or.inl rfl | exact Or.inr (Or.inl rfl) | exact Or.inr (Or.inr rfl)) (hd : (x == ("__debug__" : Str)) = false := by decide) (hcd : (x == ("__classdict__" : Str)) = false := by decide)
    (hbase : attributeBase (.Name x px) "append" X.env (eval (.Name x px) X.env) = eval (.Name x px) X.env := by rfl)
    (hfew : ((backTo cpos (starEach [e] X.env)).all (fun x => !x.1) && (backToKw cpos (keywordEach [] X.env)).all (fun x => x.1.isSome)
      && decide ([e].length + ([] : List Keyword).length + (if ([] : List Keyword).isEmpty then 0 else 1) < 30)) = true := by rfl)
    (hline : (apos.endLine == cpos.line) = true := by rfl) (hs : starEach [e] X.env = (false, eval e X.env) :: starEach [] X.env := by rfl) (hplain : (backTo cpos (starEach ([] : List Expr) X.env)).any (·.1) = false := by rfl) :
    SE X (dApp s f) (.Call (.Attribute (.Name x px) "append" apos) [e] [] cpos) := se_app hN hv he hd hcd hbase hfew hline hs hplain
end
end Q

set_option Elab.async false
set_option linter.all false
set_option maxRecDepth 100000
set_option maxHeartbeats 4000000
/-! More forms: x[i] op= e on an owned list of ints; list methods of one argument. -/
namespace Q
open PySem PySem.Spec PyProof.Rows L2
section
variable {X : Cx} {io : Nat → Bool} {f g : Ev → Res} {e i a : Expr} {pos px tpos : Pos}
theorem get_lst : PGet X (rIxL X.K) := by
  intro pns st ϱ HH bo bi ov iv QQ Inn rb rk ⟨ad, ys, n, y, eb, en, sq, ea, q⟩
  subst eb en
  cases rb
  obtain ⟨t, rfl⟩ := rk
  obtain ⟨its, r, pl, hz⟩ := Inn.list sq
  obtain ⟨j, s1, s2, s3, s4, s5⟩ := atI_get ea
  obtain ⟨wv, ew, ry⟩ := r.get s2
  have len := r.length
  have big := line63
  have done : EP X pns ϱ QQ wv st := ⟨y, HH, Inn, ry, q⟩
  by_cases pz : 0 ≤ n
  · have ej : n.toNat = j := by
      rw [seqIndex_of pz s5] at s1
      exact Option.some.inj s1
    exact PySem.wpAny_getItem_list pl.isList pz (by omega) (by rw [ej]; simpa using ew) done
  · have ej : (n + (its.toArray.size : Int)).toNat = j := by
      rw [seqIndex_neg (by omega) s4] at s1
      rw [List.size_toArray, ← len]
      exact Option.some.inj s1
    exact PySem.wpAny_getItem_list_neg pl.isList (by omega) (by rw [List.size_toArray] <;> omega) (by omega) (by rw [ej]; simpa using ew) done
/-- x[k] op= value, by ints -/
def dAugP (s : Nat) (o : Int → Int → Option Int) (f g : Ev → Res) : Ev → Out := fun env => if held1 env s = true then (match intE (f env) with
  | some (k, e1, _) => (match e1[s]? with
    | some (some (.lst ms)) => (match atI ms k with
      | some (.fz (.int a)) => (match g e1 with
        | .ok (.own (.fz (.int b))) e2 _ => (match o a b with
          | some c => (match wrAt s [] (setD k (.int c)) e2 with
            | some e3 => .nx e3
            | none => .stuck)
          | none => .stuck)
        | .ok _ _ _ => .stuck
        | .exn c e => .exn c e
        | .stuck => .stuck)
      | _ => .stuck)
    | _ => .stuck)
  | none => .stuck) else .stuck
theorem ss_augP {op : Operator} {o : Int → Int → Option Int} {s : Nat} {x : Str} (ho : PIp X op (ipO o)) (hN : X.N[s]? = some x) (hv : Vis X.env.scope x) (hi : SE X f i) (he : SE X g e) (hd : (x == ("__debug__" : Str)) = false := by decide) (hcd : (x == ("__classdict__" : Str)) = false := by decide)
    (ha : ∀ ov iv new, augStore i ov iv new = (do holding [new, ov, iv] (setItem ov iv new); release [new, ov, iv] []; pure .next) := by intros; rfl) :
    SS X io (dAugP s o f g) (.AugAssign (.Subscript (.Name x px) i tpos) op e pos) := fun W tk => PS.imp (ps_augS (pe_var hN hv hd hcd) (hi W0 takes0) get_lst (he W tk) ho set_list ha) fun D σ H ⟨Z, O, env, I, h⟩ => by
  unfold dAugP at h
  split at h
  case isFalse => exact h.elim
  rename_i hh
  obtain ⟨w, hw⟩ := I.val hh
  refine ⟨w, hw, Z, O, env, I, ?_⟩
  split at h
  case h_2 => exact h.elim
  rename_i k e1 q1 hf
  rw [intE_some hf]
  intro iv H1 p1
  obtain ⟨O1, I1, r1, st1, _⟩ := p1.fz1
  cases r1.intI
  split at h
  case h_2 => exact h.elim
  rename_i ms em
  split at h
  case h_2 => exact h.elim
  rename_i a ea
  obtain ⟨w', F1, hw', rm1, _⟩ := I1.get em
  rw [hw] at hw'; cases hw'
  cases rm1 with
  | lst ha1 rms1 =>
    rename_i a1 xs1 F0 _
    have hx : atI xs1 k = some (V.int a) := by
      unfold atI at ea ⊢
      rw [rms1.length]
      obtain ⟨j, ej, ej2⟩ := Option.bind_eq_some_iff.mp ea
      rw [ej]
      obtain ⟨v, _, Fi, _, ev, _, rv, _⟩ := rms1.at ej2
      cases rv with
      | fz rv => cases rv.intI; exact ev
    refine ⟨a1, xs1, k, V.int a, rfl, rfl, .inl (.inl ha1), hx, Z, O1, e1, I1, ?_⟩
    cases eg : g e1 with
    | stuck => rw [eg] at h; exact h
    | exn c e2 => rw [eg] at h; exact fun cls d H' p => EndS.exn (h.after st1 Held.refl) cls d H' p
    | ok y e2 q2 =>
      rw [eg] at h
      split at h
      case h_2 => exact h.elim
      case h_3 => contradiction
      case h_4 => contradiction
      rename_i b e2' q2' eq2
      cases eq2
      split at h
      case h_2 => exact h.elim
      rename_i c eo
      split at h
      case h_2 => exact h.elim
      rename_i e3 ew
      intro bv H2 p2
      obtain ⟨O2, I2, r2, st2, _⟩ := p2.fz1
      cases r2.intI
      refine ⟨a, b, c, rfl, rfl, eo, ?_⟩
      obtain ⟨w', a2, xs2, j, h1, wy, ha3, hj, O3, I3, st3⟩ := SI.put_at I2 (RF.int c) ew
      rw [hw] at h1; cases h1
      cases wy
      exact ⟨a1, xs2, k, j, rfl, rfl, ha3, hj, h _ _ ⟨⟨O3, I3, (st1.tr0 st2).tr0 st3⟩, Held.refl⟩⟩
theorem augP_ {op : Operator} {o : Int → Int → Option Int} {x : Str} (ho : PIp X op (ipO o)) (s : Nat) (hi : SE X f i) (he : SE X g e) (hN : X.N[s]? = some x := by rfl) (hv : Vis X.env.scope x := by first | exact Or.inl rfl | exact Or.inr (Or.inl rfl) | exact Or.inr (Or.inr rfl)) (hd : (x == ("__debug__" : Str)) = false := by decide) (hcd : (x == ("__classdict__" : Str)) = false := by decide)
    (ha : ∀ ov iv new, augStore i ov iv new = (do holding [new, ov, iv] (setItem ov iv new); release [new, ov, iv] []; pure .next) := by intros; rfl) :
    SS X io (dAugP s o f g) (.AugAssign (.Subscript (.Name x px) i tpos) op e pos) := ss_augP ho hN hv hi he hd hcd ha
end
/-! ### x.m(y), x a list -/
def lsV : Val → Bool
  | .own (.fz (.list _)) => true
  | .own (.lst _) => true
  | .vw (.lst _) => true
  | _ => false
def lsR : Res → Bool
  | .ok x _ _ => lsV x
  | _ => true
def dMt (k : List Val → Option (Val × Bool)) (f g : Ev → Res) : Ev → Res := fun env => if lsR (f env) = true then dG k [f, g] env else .stuck
theorem lsV_ref {K : PySem.W.Frag} {H : Hp} {G Gv : Addr → Prop} {F : List Addr} {v : V} {x : Val} (r : RVs K H G Gv [v] [x] F) (h : lsV x = true) : ∃ a ws, v = .ref a ∧ L2.Rd H a (.lst ws) := by
  unfold lsV at h
  split at h
  · cases r.fz1 with
    | lst hq hg rs => exact ⟨_, _, rfl, hq⟩
  · obtain ⟨F', r0, _⟩ := r.own1
    cases r0 with
    | lst hq rs => exact ⟨_, _, rfl, .inl hq⟩
  · obtain ⟨F', r0, _⟩ := r.vw1
    cases r0 with
    | lst hq rs => exact ⟨_, _, rfl, .inl hq⟩
  · cases h
theorem tu_mt {K : PySem.W.Frag} {mg : Str → Option Value} {W : WX} {k : List Val → Option (Val × Bool)} {f g : Ev → Res} {σ : L2.St} {H : Hp} {Q : VK} {R : List V → Hp → Prop} (h : TU K mg W (dMt k f g) σ H Q)
    (c : ∀ Z O env env' q x y z b, SI K Z O env σ H → k [x, y] = some (z, b) → ∀ vs H', PostL K Z O env σ H vs H' [x, y] env' q → (∀ v'' H'', Post K Z O env σ H v'' H'' z env' (q.f b) → Q v'' H'') → R vs H') :
    TU K mg W f σ H fun v H1 => (∃ a ws, v = .ref a ∧ L2.Rd H1 a (.lst ws)) ∧ TUL K mg W (evs [g]) σ H1 fun ws H2 => R (v :: ws) H2 := by
  obtain ⟨Z, O, env, I, h⟩ := h
  refine ⟨Z, O, env, I, ?_⟩
  unfold dMt at h
  by_cases hl : lsR (f env) = true
  case neg => rw [if_neg hl] at h; exact h.elim
  rw [if_pos hl] at h
  unfold dG evs at h
  cases ef : f env with
  | stuck => rw [ef] at h; exact h
  | exn cc env1 => rw [ef] at h; exact h
  | ok x env1 q1 =>
    rw [ef] at h hl
    intro v H1 p1
    obtain ⟨O1, F1, I1, r1, nd1, nz1, st1, _⟩ := p1.ex
    refine ⟨lsV_ref r1 hl, ?_⟩
    cases er : evs [g] env1 with
    | stuck => simp only [er] at h
    | exn cc env2 =>
      simp only [er] at h
      refine ⟨Zp Z F1, O1, env1, I1, ?_⟩
      rw [er]
      exact fun cls d H' px => h cls d H' (PostX.after (v := v) (x := x) (q1 := q1) st1 px)
    | ok ys env2 q2 =>
      simp only [er] at h
      obtain ⟨O1', F1', I1', kk⟩ := PostL.cons (q2 := q2) p1
      refine ⟨Zp Z F1', O1', env1, I1', ?_⟩
      rw [er]
      intro vs H2 p2
      have hlen := evs_len er
      match ys, hlen, er, p2, h with
      | [y], _, er, p2, h =>
        have go : ∀ (hv : x.isV = true → q2 ≠ .l), (match k [x, y] with
            | some (z, b) => Res.ok z env2 ((q1.j q2).f b)
            | none => Res.stuck) = (match k [x, y] with
            | some (z, b) => Res.ok z env2 ((q1.j q2).f b)
            | none => Res.stuck) → (match (match k [x, y] with
            | some (z, b) => Res.ok z env2 ((q1.j q2).f b)
            | none => Res.stuck) with
            | .ok z env' q => ∀ v H', Post K Z O env σ H v H' z env' q → Q v H'
            | .exn c env' => ∀ cls d H', PostX K mg Z O σ H cls d H' c env' → W cls d σ H'
            | .stuck => False) → R (v :: vs) H2 := fun hv _ h => by
          cases ek : k [x, y] with
          | none => rw [ek] at h; exact h.elim
          | some zb =>
            obtain ⟨z, b⟩ := zb
            rw [ek] at h
            exact c Z O env env2 (q1.j q2) x y z b I ek _ _ (kk p2 hv) h
        cases x with
        | own m => exact go (fun z => nomatch z) rfl h
        | vw m =>
          cases q2 with
          | l => exact h.elim
          | p => exact go (fun _ z => nomatch z) rfl h
          | q => exact go (fun _ z => nomatch z) rfl h
/-- a list's method of one argument, by its rule -/
def MtV (X : Cx) (id : String) (k : List Val → Option (Val × Bool)) : Prop :=
  ∃ r, MtR X id r ∧ ∀ Z O env env' σ H H' v w x y z b q Q, PostL X.K Z O env σ H [v, w] H' [x, y] env' q → k [x, y] = some (z, b) → (∀ v' H'', Post X.K Z O env σ H v' H'' z env' (q.f b) → Q v' H'') → r v [w] H' Q
section
variable {X : Cx} {f g : Ev → Res} {e a : Expr} {apos cpos : Pos} {k : List Val → Option (Val × Bool)} {mn : Str} {id : String}
theorem se_mt (sl : Slot "list" mn id) (ty : typeOf (.builtin id) = pure (.type "method_descriptor")) (hm : MtV X id k) (ha : SE X f a) (hb : SE X g e)
    (hbase : attributeBase a mn X.env (eval a X.env) = eval a X.env := by rfl)
    (few : ((backTo cpos (starEach [e] X.env)).all (fun x => !x.1) && (backToKw cpos (keywordEach [] X.env)).all (fun x => x.1.isSome) && decide ([e].length + ([] : List Keyword).length + (if ([] : List Keyword).isEmpty then 0 else 1) < 30)) = true := by rfl)
    (hline : (apos.endLine == cpos.line) = true := by rfl) (hs : starEach [e] X.env = (false, eval e X.env) :: starEach [] X.env := by rfl) (pln : (backTo cpos (starEach ([] : List Expr) X.env)).any (·.1) = false := by rfl) :
    SE X (dMt k f g) (.Call (.Attribute a mn apos) [e] [] cpos) := fun W tk => by
  obtain ⟨r, h1, h2⟩ := hm
  refine PE.imp (pe_bm PySem.F.plainAttrs_list sl ty h1 (ha W tk) (sa_cons hb sa_nil hs W tk) hbase few hline hs pln) fun σ H Q h => ?_
  have h3 := tu_mt (R := fun vs H' => ∀ v w, vs = [v, w] → r v [w] H' Q) h fun Z O env env' q x y z b I hk vs H' pl kk v w ev => by
    subst ev
    exact h2 Z O env env' σ H H' v w x y z b q Q pl hk kk
  obtain ⟨Z, O, env, I, h3⟩ := h3
  refine ⟨Z, O, env, I, ?_⟩
  cases ef : f env with
  | stuck => rw [ef] at h3; exact h3
  | exn c e1 => rw [ef] at h3; exact h3
  | ok x e1 q =>
    rw [ef] at h3
    intro v H1 p1
    obtain ⟨⟨p, ws, ev, hq⟩, h4⟩ := h3 v H1 p1
    subst ev
    refine ⟨.inl ⟨rfl, ws, .inl hq⟩, ?_⟩
    obtain ⟨Z2, O2, env2, I2, h4⟩ := h4
    refine ⟨Z2, O2, env2, I2, ?_⟩
    cases eg : evs [g] env2 with
    | stuck => rw [eg] at h4; exact h4
    | exn c e1 => rw [eg] at h4; exact h4
    | ok ys e3 q3 =>
      rw [eg] at h4
      intro us H2 p2
      obtain ⟨O3, F3, _, rr, _⟩ := p2.ex
      have hlen := (RVs.length rr).trans (evs_len eg)
      match us, hlen with
      | [u], _ => exact h4 [u] H2 p2 _ _ rfl
end
def kLCount : List Val → Option (Val × Bool)
  | [x, y] => (lv x).bind fun ds => (intsD ds).bind fun ns => match valD y with
    | some (.int k) => some (.own (.fz (.int (ns.count k : Nat))), false)
    | _ => none
  | _ => none
theorem mtv_count {X : Cx} : MtV X "list.count" kLCount := by
  refine ⟨_, mt_lcount, fun Z O env env' σ H H' v w x y z b q Q pl he kk => ?_⟩
  unfold kLCount at he
  obtain ⟨ds, ea, he⟩ := Option.bind_eq_some_iff.mp he
  obtain ⟨ns, eb, he⟩ := Option.bind_eq_some_iff.mp he
  split at he
  case h_2 => cases he
  rename_i k ek
  cases he
  obtain ⟨O', F, pa⟩ := pl.ex
  obtain ⟨a, ws, rfl, h1, r1⟩ := pa.2.1.lv ea
  obtain ⟨F', rt, _⟩ := pa.2.1.tail
  have rd : RFs X.K H' Top [w] [.int k] := rt.data (by simp [valDs, ek])
  cases rd with
  | cons r0 _ =>
    cases r0.intI
    exact ⟨a, ns, k, rfl, rfl, by rw [← RFs.intsD r1 eb]; exact .inl h1, kk _ _ (pl.plain fun G => .int _)⟩
def kLIndex : List Val → Option (Val × Bool)
  | [x, y] => (lv x).bind fun ds => (valD y).bind fun d => if SeqAt.shaped (.list ds) = true ∧ SeqAt.shaped d = true then (ds.findIdx? fun z => PyData.eqv z d).map fun j => (.own (.fz (.int (j : Nat))), false) else none
  | _ => none
theorem mtv_index {X : Cx} (hu : X.A.units + 65 < cLine) : MtV X "list.index" kLIndex := by
  refine ⟨_, mt_indexD hu, fun Z O env env' σ H H' v w x y z b q Q pl he kk => ?_⟩
  unfold kLIndex at he
  obtain ⟨ds, ea, he⟩ := Option.bind_eq_some_iff.mp he
  obtain ⟨d, eb, he⟩ := Option.bind_eq_some_iff.mp he
  split at he
  case isFalse => cases he
  rename_i hs
  obtain ⟨j, ej, e2⟩ := Option.map_eq_some_iff.mp he
  cases e2
  obtain ⟨O', F, pa⟩ := pl.ex
  obtain ⟨a, ws, rfl, h1, r1⟩ := pa.2.1.lv ea
  obtain ⟨F', rt, _⟩ := pa.2.1.tail
  have rd : RFs X.K H' Top [w] [d] := rt.data (by simp [valDs, eb])
  cases rd with
  | cons r0 _ =>
    obtain ⟨hj, e3, e4⟩ := List.findIdx?_eq_some_iff_getElem.mp ej
    refine ⟨a, w, d, ds, j, ds[j], rfl, rfl, .lst (.inl h1) r1.dp, r0.dp, hs.1, hs.2, List.getElem?_eq_getElem hj, e3, fun m z' hm hz => ?_, kk _ _ (pl.plain fun G => .int _)⟩
    obtain ⟨hm2, rfl⟩ := List.getElem?_eq_some_iff.mp hz
    exact Bool.eq_false_iff.mpr (e4 m hm)
section
variable {X : Cx} {f g : Ev → Res} {e a : Expr} {apos cpos : Pos}
theorem lcount_ (ha : SE X f a) (hb : SE X g e)
    (hbase : attributeBase a "count" X.env (eval a X.env) = eval a X.env := by rfl)
    (few : ((backTo cpos (starEach [e] X.env)).all (fun x => !x.1) && (backToKw cpos (keywordEach [] X.env)).all (fun x => x.1.isSome) && decide ([e].length + ([] : List Keyword).length + (if ([] : List Keyword).isEmpty then 0 else 1) < 30)) = true := by rfl)
    (hline : (apos.endLine == cpos.line) = true := by rfl) (hs : starEach [e] X.env = (false, eval e X.env) :: starEach [] X.env := by rfl) (pln : (backTo cpos (starEach ([] : List Expr) X.env)).any (·.1) = false := by rfl) :
    SE X (dMt kLCount f g) (.Call (.Attribute a "count" apos) [e] [] cpos) := se_mt PySem.F.slot_list_count PySem.F.type_list_count mtv_count ha hb hbase few hline hs pln
theorem lindex_ (hu : X.A.units + 65 < cLine) (ha : SE X f a) (hb : SE X g e)
    (hbase : attributeBase a "index" X.env (eval a X.env) = eval a X.env := by rfl)
    (few : ((backTo cpos (starEach [e] X.env)).all (fun x => !x.1) && (backToKw cpos (keywordEach [] X.env)).all (fun x => x.1.isSome) && decide ([e].length + ([] : List Keyword).length + (if ([] : List Keyword).isEmpty then 0 else 1) < 30)) = true := by rfl)
    (hline : (apos.endLine == cpos.line) = true := by rfl) (hs : starEach [e] X.env = (false, eval e X.env) :: starEach [] X.env := by rfl) (pln : (backTo cpos (starEach ([] : List Expr) X.env)).any (·.1) = false := by rfl) :
    SE X (dMt kLIndex f g) (.Call (.Attribute a "index" apos) [e] [] cpos) := se_mt PySem.F.slot_list_index PySem.F.type_list_index (mtv_index hu) ha hb hbase few hline hs pln
end
/-! ### sum of a list or a tuple -/
def oSumA : List PyData → Option PyData
  | [.list ds] => (intsD ds).map fun ns => .int ns.sum
  | [.tuple ds] => (intsD ds).map fun ns => .int ns.sum
  | _ => none
theorem cr_sumT {X : Cx} (hc : X.calm = true) : CallR X (.builtin "sum") (fun vs H Q => ∃ (a : Addr) (ns : List Int), vs = [V.ref a] ∧ SqT X.K H a (ns.map V.int) ∧ Q (.int ns.sum) H) := by
  intro pns st ϱ HH us vs QQ Inn rr h
  obtain ⟨a, ns, eu, hs, q⟩ := h
  subst eu
  obtain ⟨its, rv, pt, _⟩ := Inn.tuple hs
  rw [Vals.ref1 rr]
  have tup : st.heap.IsTuple a its.toArray := by
    obtain ⟨o, e, c, n, d⟩ := pt
    exact ⟨o, e, c, n, d⟩
  obtain ⟨xs, ex⟩ := rv.ints.allInts.items
  have hn : numsOf (intItems xs).toList = ns := by rw [← ex]; exact rv.ints.numsOf
  rw [nums_intItems] at hn
  rw [ex] at tup
  refine PySem.W.ktm_sumG (Inn.ok.hd hc) tup fun h' tk t' hk => ?_
  refine ⟨.int ns.sum, HH, Inn.kept hk, ⟨t', ?_⟩, q⟩
  rw [preSum_eq, List.take_of_length_le (by simp), hn]
theorem callv_sumA {X : Cx} (hc : X.calm = true) : CallV X (.builtin "sum") (kPl oSumA) := callv_of ((cr_sum hc).or (cr_sumT hc)) fun vs H Q ds d hd he k => by
  unfold oSumA at he
  split at he
  · obtain ⟨ns, e, rfl⟩ := Option.map_eq_some_iff.mp he
    obtain ⟨v, rfl, r⟩ := hd.v1
    cases r with
    | lst h g rs => exact .inl ⟨_, ns, rfl, .inl (by rw [← rs.intsD e]; exact h), k _ fun G => .int _⟩
  · obtain ⟨ns, e, rfl⟩ := Option.map_eq_some_iff.mp he
    obtain ⟨v, rfl, r⟩ := hd.v1
    cases r with
    | tup h rs => exact .inr ⟨_, ns, rfl, by rw [← rs.intsD e]; exact h.t, k _ fun G => .int _⟩
  · cases he
end Q

set_option Elab.async false
set_option linter.all false
set_option maxRecDepth 100000
set_option maxHeartbeats 4000000
/-! Plain lemmas that more than one law takes (most first written for k01). -/
namespace Q
open PySem PySem.Spec PyProof.Rows L2
abbrev mal : Exn := ⟨"Malformed", []⟩
def inP (lo hi : Int) (p2 : Int → Int → Bool) : PyData → Bool
  | .int k => decide (lo ≤ k) && p2 k hi
  | _ => false
theorem inP_R (lo hi : Int) (d : PyData) : inP lo hi (fun i j => decide (i ≤ j)) d = inR lo hi d := by cases d <;> rfl
theorem oifT {t : Ev → Res} {a b : Ev → Out} {env : Ev} {c : Bool} (ht : YQ t env (.own (.fz (.bool c)))) (hc : c = true) : outR (dIfS t a b env) = outR (a env) := by rw [oif ht, if_pos hc]
theorem oifF {t : Ev → Res} {a b : Ev → Out} {env : Ev} {c : Bool} (ht : YQ t env (.own (.fz (.bool c)))) (hc : c = false) : outR (dIfS t a b env) = outR (b env) := by rw [oif ht, if_neg (by simp [hc])]
theorem out_ifT {t : Ev → Res} {a b : Ev → Out} {env : Ev} {c : Bool} (ht : YQ t env (.own (.fz (.bool c)))) (hc : c = true) : dIfS t a b env = a env := by rw [out_if ht, if_pos hc]
theorem out_ifF {t : Ev → Res} {a b : Ev → Out} {env : Ev} {c : Bool} (ht : YQ t env (.own (.fz (.bool c)))) (hc : c = false) : dIfS t a b env = b env := by rw [out_if ht, if_neg (by simp [hc])]
theorem try_x {b r : Ev → Out} {env : Ev} (h : outR (b env) = .exn mal) : outR (dSeq (dTry b [([("Malformed", true)], dRet (dLit (.bool true)))]) r env) = .ret (.fz (.bool true)) := by
  cases e : b env with
  | exn c e1 =>
    rw [e] at h
    cases h
    unfold dSeq dTry
    simp only [e]
    rfl
  | nx e1 => rw [e] at h; cases h
  | ret m e1 => rw [e] at h; cases h
  | brk e1 => rw [e] at h; cases h
  | ct e1 => rw [e] at h; cases h
  | stuck => rw [e] at h; cases h
theorem try_n {b r : Ev → Out} {hs : List (Takers × (Ev → Out))} {env e1 : Ev} (h : b env = .nx e1) : outR (dSeq (dTry b hs) r env) = outR (r e1) := by
  unfold dSeq dTry
  rw [h]
theorem oexl {x : Exn} {f : Ev → Res} {env e : Ev} (h : f env = .exn x e) : outR (dEx f env) = .exn x := by
  unfold dEx; rw [h]; rfl
theorem all2_F {α : Type} {F : α → M} {P : α → Prop} : ∀ {ds : List PyData} {ms : List M}, All2 (fun _ m => ∃ a, m = F a ∧ P a) ds ms → ∃ as : List α, ms = as.map F ∧ as.length = ds.length ∧ ∀ a ∈ as, P a
  | _, _, .nil => ⟨[], rfl, rfl, fun _ h => by cases h⟩
  | _, _, .cons ⟨a, h1, h2⟩ t => by
    obtain ⟨as, h3, h4, h5⟩ := all2_F t
    subst h1 h3
    refine ⟨a :: as, rfl, by simp [h4], fun x hx => ?_⟩
    cases hx with
    | head => exact h2
    | tail _ hx => exact h5 x hx
theorem lg_small {m : Int} (h0 : 0 ≤ m) (h : m ≤ 1000000) : m.natAbs.log2 < 9000 := by
  have h1 : m.natAbs < 2 ^ 20 := by omega
  by_cases hz : m.natAbs = 0
  · rw [hz]; decide
  · have := (Nat.log2_lt hz).mpr h1
    omega
theorem dv_tupOf {f : Ev → Res} {e : Dr → Ev} {R : List M → Prop} {P : M → Prop} (h : DV f e fun x => ∃ ms, x = .own (.lst ms) ∧ R ms) (hk : ∀ ms, R ms → ∃ ds, seqv (.own (.lst ms)) = some ds ∧ P (.fz (.tuple ds))) : DV (dG kTupOf [f]) e fun x => ∃ mm, x = .own mm ∧ P mm := fun D ok => by
  obtain ⟨x, D2, q, ok2, ⟨ms, rfl, r⟩, e1⟩ := h D ok
  obtain ⟨ds, h1, h2⟩ := hk ms r
  refine ⟨_, D2, (q.j .p).f true, ok2, ⟨_, rfl, h2⟩, ?_⟩
  have : evs [f] (e D) = .ok [.own (.lst ms)] (e D2) (q.j .p) := by
    unfold evs
    rw [e1]
    rfl
  unfold dG
  rw [this]
  simp only [kTupOf, h1, Option.map_some]
theorem dv_frI {f : Ev → Res} {e : Dr → Ev} {P : Int → Prop} (h : DV f e (IsI P)) : DV (dFr f) e (IsI P) := dv_fr (h.imp fun x ⟨m, hx, i, hm, p⟩ => by subst hx hm; exact ⟨_, _, rfl, rfl, _, rfl, i, rfl, p⟩)
theorem rngD_len (n : Nat) : (rngD 0 n).length = n := by
  have := congrArg List.length (rngD_map (fun d => d) n)
  simpa using this
theorem yqs_lst {fs : List (Ev → Res)} {env : Ev} {ds : List PyData} (h : YQs fs env (ds.map fun d => .own (.fz d))) : YQ (dLst fs) env (.own (.lst (ds.map .fz))) := yq_Fn h (by
  have := owns_own (ds.map .fz)
  rw [List.map_map] at this
  show (owns (ds.map (Val.own ∘ M.fz))).map _ = _
  rw [this]; rfl)
theorem noDicts_of : ∀ {ds : List PyData}, (∀ d ∈ ds, noDict d = true) → noDicts ds = true
  | [], _ => rfl
  | d :: ds, h => by
    unfold noDicts
    rw [h d List.mem_cons_self, noDicts_of fun x hx => h x (List.mem_cons_of_mem _ hx)]; rfl
theorem noDict_tup {ds : List PyData} (h : ∀ d ∈ ds, noDict d = true) : noDict (.tuple ds) = true := by unfold noDict; exact noDicts_of h
theorem noDict_lst {ds : List PyData} (h : ∀ d ∈ ds, noDict d = true) : noDict (.list ds) = true := by unfold noDict; exact noDicts_of h
theorem cut_mem {ds : List PyData} {lo hi : Option Int} {d : PyData} (h : d ∈ cutD ds lo hi) : d ∈ ds := List.mem_of_mem_drop (List.mem_of_mem_take h)
theorem cut_le {ds : List PyData} {lo hi : Option Int} : (cutD ds lo hi).length ≤ ds.length := by
  unfold cutD
  rw [List.length_take, List.length_drop]; omega
theorem noDict_in {ds : List PyData} (h : noDict (.tuple ds) = true) : ∀ d ∈ ds, noDict d = true := noDicts_mem (by unfold noDict at h; exact h)
theorem dv_gt0 {f : Ev → Res} {e : Dr → Ev} {P : Int → Prop} (h : DV f e (IsI P)) : DV (dG (kPl oGt) [f, dLit (.int 0)]) e fun x => ∃ b, x = .own (.fz (.bool b)) ∧ True :=
  dv_G (dvs_cons h (dvs_is1 (dv_q fun _ _ => yq_lit))) fun ms ⟨m, r, e1, ⟨i, e2, _⟩, e3⟩ => by
    subst e1 e2 e3
    exact ⟨_, false, kpl2 (d := .bool (decide (0 < i))) rfl, _, rfl, trivial⟩
def NO (b : Ev → Out) (env : Ev) (I : Ev → Prop) : Prop := ∃ e2, b env = .nx e2 ∧ I e2
theorem ints_nd (os : List Int) : noDict (.tuple (os.map .int)) = true := noDict_tup fun x hx => by
  obtain ⟨i, _, rfl⟩ := List.mem_map.mp hx
  rfl
theorem ix_int {r : List Int} {g : Nat} (h : g < r.length) : ixV (.own (.fz (.tuple (r.map .int)))) (g : Int) = some (.own (.fz (.int (r.getD g 0)))) := by
  simp only [ixV, atI, ixN]
  rw [if_pos (by omega), if_pos (by simp; omega)]
  simp [h]
theorem rngD_ints (n : Nat) : rngD 0 n = (List.range n).map fun i => .int (i : Nat) := by
  have := rngD_map (fun d => d) n
  rwa [List.map_id'] at this
theorem yq_rngN {f : Ev → Res} {env : Ev} {n : Nat} (h : YQ f env (.own (.fz (.int n)))) (h1 : n ≤ 100) : YQ (dG kRng [f]) env (.own (.fz (.list (rngD 0 n)))) := by
  have := yq_rng h (by omega) (by unfold SZ; omega)
  rwa [Int.toNat_natCast] at this
theorem yq_eqb {f g : Ev → Res} {env : Ev} {a b : Bool} (h : YQ f env (.own (.fz (.bool a)))) (h2 : YQ g env (.own (.fz (.bool b)))) : YQ (dG (kPl oEq) [f, g]) env (.own (.fz (.bool (a == b)))) := yq_p2 h h2 (by cases a <;> cases b <;> rfl)
theorem yq_isnt {f g : Ev → Res} {env : Ev} {a b : Bool} (h : YQ f env (.own (.fz (.bool a)))) (h2 : YQ g env (.own (.fz (.bool b)))) : YQ (dG (kIs true) [f, g]) env (.own (.fz (.bool (!(a == b))))) := yq_G (b := false) (y2 h h2) (by cases a <;> cases b <;> rfl)
theorem yq_ne_sh {f g : Ev → Res} {env : Ev} {k : Nat} {a : PyData} (h : YQ f env (.own (.fz a))) (h2 : YQ g env (.own (.fz a))) (hs : Sh k a) (hk : k ≤ 64) : YQ (dG (kPl oNe) [f, g]) env (.own (.fz (.bool false))) := yq_p2 h h2 (oNe_self hs hk)
theorem atI_of {α : Type} {xs : List α} {i : Int} (h0 : 0 ≤ i) (h : i < xs.length) : ∃ x, x ∈ xs ∧ atI xs i = some x := by
  have hj : i.toNat < xs.length := by omega
  refine ⟨xs[i.toNat], List.getElem_mem hj, ?_⟩
  simp only [atI, ixN]
  rw [if_pos h0, if_pos h]
  simp [hj]
theorem dv_pick {g : Ev → Res} {e : Dr → Ev} {fs : List (Ev → Res)} {ds : List PyData} {P : M → Prop} (h : ∀ D, Dr.Ok D → YQs fs (e D) (ds.map fun d => .own (.fz d))) (ht : DV g e (IsI fun i => 0 ≤ i ∧ i < ds.length)) (hp : ∀ d ∈ ds, P (.fz d)) : DV (dFr (dIx (dLst fs) g)) e fun x => ∃ m, x = .own m ∧ P m := by
  refine (dv_fr (P := fun x => ∃ m, x = .own m ∧ P m) (dv_F (dvs_cons (P := (· = .lst (ds.map .fz))) ((dv_q fun D ok => yqs_lst (h D ok)).imp fun x hx => ⟨_, hx, rfl⟩) (dvs_cons ht dvs_nil)) fun ms z => ?_))
  obtain ⟨m1, r1, e1, e2, m2, r2, e3, ⟨j, e4, h1, h2⟩, e5⟩ := z
  subst e1 e2 e3 e4 e5
  obtain ⟨x, hx, hj⟩ := atI_of (xs := ds.map M.fz) h1 (by rw [List.length_map]; exact h2)
  obtain ⟨d, hd, rfl⟩ := List.mem_map.mp hx
  refine ⟨.own (.fz d), ?_, _, d, rfl, rfl, _, rfl, hp d hd⟩
  show (atI (ds.map M.fz) j).map _ = _
  rw [hj]; rfl
section
variable {e : Dr → Ev} {env : Ev} {f t src : Ev → Res} {I : Ev → Prop} {s i : Nat} {D : Dr} {a b rest : Ev → Out} {Q : M → Prop}
theorem no_set {P : M → Prop} (ok : Dr.Ok D) (h : DV f e fun x => ∃ m, x = .own m ∧ P m) (hi : ∀ D, i < (e D).length) (k : ∀ m D2, Dr.Ok D2 → P m → NO rest ((e D2).set i (some m)) I) : NO (dSeq (dSet i f) rest) (e D) I := by
  obtain ⟨x, D2, q, ok2, ⟨m, rfl, p⟩, h1⟩ := h D ok
  have h2 : dSet i f (e D) = .nx ((e D2).set i (some m)) := by
    unfold dSet; rw [h1]; simp only [put1, if_pos (hi D2)]
  have h3 := k m D2 ok2 p
  unfold NO at h3 ⊢
  rw [out_seq h2]
  exact h3
theorem no_if (ht : YQ t env (.own (.fz (.bool false)))) (k : NO rest env I) : NO (dSeq (dIfS t a dNx) rest) env I := by
  unfold NO at k ⊢
  rw [out_seq (show dIfS t a dNx env = .nx env from (out_ifF ht rfl).trans rfl)]
  exact k
theorem no_last (ht : YQ t env (.own (.fz (.bool false)))) (h : I env) : NO (dIfS t a dNx) env I := ⟨env, (out_ifF ht rfl).trans rfl, h⟩
theorem ro_for {p : Tg} {ds : List PyData} (I : Ev → Prop) (hsrc : YQ src env (.own (.fz (.list ds)))) (hs : ∀ d ∈ ds, ∀ env, I env → ∃ e1, p d env = some e1 ∧ NO b e1 I) (h : I env) (k : ∀ env, I env → RO s rest env Q) : RO s (dSeq (dFor p src b) rest) env Q := by
  obtain ⟨e2, h1, h2⟩ := runF_inv (p := p) (b := b) I (ds := ds) (env := env) (fun d hd env hi => by
    obtain ⟨e1, h1, e2, h2, h3⟩ := hs d hd env hi
    exact ⟨e1, e2, h1, .inl h2, h3⟩) h
  have := k e2 h2
  unfold RO at this ⊢
  rw [out_seq ((out_for hsrc).trans h1)]
  exact this
end
/-! ### more steps -/
section
variable {f g t : Ev → Res} {a b rest : Ev → Out} {env e2 : Ev} {i j s : Nat} {m n : M} {d : PyData}
theorem out_par (h : YQs [f, g] env [.own m, .own n]) (hi : i < env.length) (hj : j < env.length) : dPar i j f g env = .nx ((env.set i (some m)).set j (some n)) := by
  obtain ⟨q, e, _⟩ := h
  unfold dPar
  rw [e]
  simp only [if_pos (And.intro hi hj)]
theorem runW_T {k : Nat} (h : YQ t env (.own (.fz (.bool true)))) (hb : b env = .nx e2) : runW t b (k + 1) env = runW t b k e2 := by
  obtain ⟨q, e, _⟩ := h
  rw [runW]
  simp only [e, hb]
theorem runW_F {k : Nat} (h : YQ t env (.own (.fz (.bool false)))) : runW t b (k + 1) env = .nx env := by
  obtain ⟨q, e, _⟩ := h
  rw [runW]
  simp only [e]
/-- an if that does not hold -/
theorem oskip (ht : YQ t env (.own (.fz (.bool false)))) : outR (dSeq (dIfS t a dNx) rest env) = outR (rest env) := by
  rw [out_seq (show dIfS t a dNx env = .nx env from (out_ifF ht rfl).trans rfl)]
theorem out_skip (ht : YQ t env (.own (.fz (.bool false)))) : dSeq (dIfS t a dNx) rest env = rest env := out_seq (show dIfS t a dNx env = .nx env from (out_ifF ht rfl).trans rfl)
theorem dret_of (h : YQ f env (.own m)) : dRet f env = .ret m env := by
  obtain ⟨q, e, _⟩ := h
  unfold dRet; rw [e]
/-- an if that holds and returns -/
theorem otake (ht : YQ t env (.own (.fz (.bool true)))) (h : YQ f env (.own m)) : outR (dSeq (dIfS t (dRet f) dNx) rest env) = .ret m := by
  obtain ⟨q, e, _⟩ := h
  have : dIfS t (dRet f) dNx env = .ret m env := (out_ifT ht rfl).trans (by unfold dRet; rw [e])
  rw [out_seq_ret this]
  rfl
theorem out_augP {o : Int → Int → Option Int} {ms : List M} {k x y z : Int} (hs : env[s]? = some (some (.lst ms))) (hi : YQ f env (.own (.fz (.int k)))) (hg : YQ g env (.own (.fz (.int y)))) (hj : ixN ms.length k = some j) (hm : ms[j]? = some (.fz (.int x))) (ho : o x y = some z) :
    dAugP s o f g env = .nx (env.set s (some (.lst (ms.set j (.fz (.int z)))))) := by
  obtain ⟨q, e, _⟩ := hi
  obtain ⟨q2, e2, _⟩ := hg
  have ha : atI ms k = some (.fz (.int x)) := by unfold atI; rw [hj]; exact hm
  unfold dAugP
  simp only [held1, hs, if_true, e, intE, ha, e2, ho, wrAt, M.wr, setD, hj, Option.map_some]
theorem out_app {ms : List M} (hs : env[s]? = some (some (.lst ms))) (h : YQ f env (.own (.fz d))) (hl : ms.length < SZ) : dEx (dApp s f) env = .nx (env.set s (some (.lst (ms ++ [.fz d])))) := by
  obtain ⟨q, e, _⟩ := yq_fr h (m := .fz d) rfl
  unfold dEx dApp
  simp only [isLst, hs, if_true, e, wrAt, M.wr, appD, if_pos hl, Option.map_some]
theorem oret_tk {ds : List PyData} (hs : env[s]? = some (some (.lst (ds.map .fz)))) : outR (dRet (dTk s) env) = .ret (.fz (.list ds)) := by
  have : dTk s env = .ok (.own (.fz (.list ds))) (env.set s (some (.fz (.list ds)))) .q := by
    unfold dTk
    rw [hs]
    simp only [frz_lst]
  unfold dRet
  rw [this]
  rfl
theorem yq_sumA {x : Val} {ns : List Int} (h : YQ f env x) (hx : valD x = some (.list (ns.map .int)) ∨ valD x = some (.tuple (ns.map .int))) : YQ (dG (kPl oSumA) [f]) env (.own (.fz (.int ns.sum))) := yq_G (b := false) (ys_cons h ys_nil) (by
  rcases hx with hx | hx
  · have e : valDs [x] = some [.list (ns.map .int)] := by simp only [valDs, hx, Option.bind_some, Option.map_some]
    simp only [kPl, e, Option.bind_some, oSumA, intsD_map, Option.map_some]
  · have e : valDs [x] = some [.tuple (ns.map .int)] := by simp only [valDs, hx, Option.bind_some, Option.map_some]
    simp only [kPl, e, Option.bind_some, oSumA, intsD_map, Option.map_some])
theorem count_cast (l : List Nat) (i : Nat) : (l.map fun x : Nat => (x : Int)).count (i : Int) = l.count i := by
  induction l with
  | nil => rfl
  | cons a l ih =>
    rw [List.map_cons, List.count_cons, List.count_cons, ih]
    congr 1
    by_cases h : a = i
    · simp [h]
    · have : ((a : Int) == (i : Int)) = false := by simp; omega
      rw [this]
      simp [h]
theorem yq_count {x : Val} {l : List Nat} {k : Nat} (h : YQ f env x) (hx : lv x = some ((l.map fun x : Nat => (x : Int)).map .int)) (hv : lsV x = true) (hg : YQ g env (.own (.fz (.int k)))) : YQ (dMt kLCount f g) env (.own (.fz (.int (l.count k : Nat)))) := by
  obtain ⟨q, e, n⟩ := yq_G (k := kLCount) (b := false) (ys_cons h (ys_cons hg ys_nil)) (y := .own (.fz (.int (l.count k : Nat)))) (by
    simp only [kLCount, hx, Option.bind_some, intsD_map, valD, frz, count_cast])
  refine ⟨q, ?_, n⟩
  obtain ⟨q0, e0, _⟩ := h
  unfold dMt
  rw [if_pos (by rw [e0]; exact hv), e]
end
section
variable {e : Dr → Ev} {f g t : Ev → Res} {fs gs : List (Ev → Res)} {P P' : Val → Prop} {Q : M → Prop} {s i : Nat} {D : Dr} {a b rest : Ev → Out}
/-- .. with drawn arguments beside it -/
theorem dv_ioE {n : Nat} {den : Ev → Out} {R : List M → Prop} {as : List Arg} (has : as = .io s :: gs.map .v) (hs : ∀ D, (e D)[s]? = some (some D.m)) (hset : ∀ D D2, (e D).set s (some D2.m) = e D2) (h : DVs gs e R)
    (hc : ∀ ms, R ms → ∀ D, Dr.Ok D → RO 0 den (startE n (D.m :: ms)) Q) : DV (dCallI n den as) e fun x => ∃ m, x = .own m ∧ Q m := fun D ok => by
  subst has
  obtain ⟨ms', D2, q, ok2, hR, e1⟩ := h D ok
  obtain ⟨m, D3, e3, ok3, q3, r3, s3⟩ := hc ms' hR D2 ok2
  refine ⟨_, D3, .l, ok3, ⟨m, rfl, q3⟩, ?_⟩
  have hlen : s < (e D2).length := by
    obtain ⟨q, _⟩ := List.getElem?_eq_some_iff.mp (hs D2)
    exact q
  have ev : evs (vparts (.io s :: gs.map .v)) (e D) = .ok (ms'.map .own) (e D2) q := by
    show evs (vparts (gs.map .v)) (e D) = _
    rw [vparts_v]; exact e1
  have hio : ioOf (.io s :: gs.map Arg.v) = [s] := by
    show s :: ioOf (gs.map Arg.v) = [s]
    rw [ioOf_v]
  unfold dCallI
  have hh : heldAll (e D) (.io s :: gs.map .v) = true := by
    simp only [heldAll, hio, List.all_cons, List.all_nil, Bool.and_true, held1, hs D]
  rw [if_pos hh]
  unfold dCallIo
  rw [ev]
  have st : startE n (mergeM (.io s :: gs.map .v) ms' D2.m) = startE n (D2.m :: ms') := by
    show startE n (D2.m :: mergeM (gs.map .v) ms' D2.m) = _
    rw [merge_v (by have := evs_len e1; rw [List.length_map] at this; exact this)]
  simp only [owns_own, hio, hs D2, st, r3, backR, ioPos, s3, if_pos hlen, hset]
end
/-! ### sizes -/
theorem log_lt {a p : Nat} (h : a < 2 ^ p) (hp : 0 < p) : a.log2 < p := by
  by_cases hz : a = 0
  · rw [hz]; exact hp
  · exact (Nat.log2_lt hz).mpr h
theorem lt_mul2 {a b p q : Nat} (ha : a < 2 ^ p) (hb : b < 2 ^ q) : a * b < 2 ^ (p + q) := by
  rw [Nat.pow_add]
  exact Nat.mul_lt_mul'' ha hb
theorem mulOkN {a b : Nat} (ha : a < 2 ^ 400) (hb : b < 2 ^ 400) : mulOk (a : Int) (b : Int) = true := by
  unfold mulOk
  apply decide_eq_true
  rw [Int.natAbs_natCast, Int.natAbs_natCast]
  have := log_lt ha (by decide)
  have := log_lt hb (by decide)
  omega
section
variable {f g : Ev → Res} {env : Ev} {a b : Nat}
theorem yq_mulN (h : YQ f env (.own (.fz (.int a)))) (h2 : YQ g env (.own (.fz (.int b)))) (ha : a < 2 ^ 400) (hb : b < 2 ^ 400) : YQ (dG kMul [f, g]) env (.own (.fz (.int ((a * b : Nat) : Int)))) := by
  have := yq_mul h h2 (mulOkN ha hb)
  rwa [← Int.natCast_mul] at this
theorem yq_addN (h : YQ f env (.own (.fz (.int a)))) (h2 : YQ g env (.own (.fz (.int b)))) : YQ (dG kAdd [f, g]) env (.own (.fz (.int ((a + b : Nat) : Int)))) := by
  have := yq_add h h2
  rwa [← Int.natCast_add] at this
theorem yq_divN (h : YQ f env (.own (.fz (.int a)))) (h2 : YQ g env (.own (.fz (.int b)))) (h0 : 0 < b) (hb : b < 2 ^ 400) : YQ (dG (kPl oFdiv) [f, g]) env (.own (.fz (.int ((a / b : Nat) : Int)))) := by
  have := yq_div h h2 (by omega) (by rw [Int.natAbs_natCast]; have := log_lt hb (by decide); omega)
  rwa [← Int.natCast_ediv] at this
theorem yq_modN (h : YQ f env (.own (.fz (.int a)))) (h2 : YQ g env (.own (.fz (.int b)))) (h0 : 0 < b) : YQ (dG (kPl oMod) [f, g]) env (.own (.fz (.int ((a % b : Nat) : Int)))) := by
  have := yq_mod h h2 (by omega)
  rwa [← Int.natCast_emod] at this
theorem yq_litN {n : Nat} : YQ (dLit (.int n)) env (.own (.fz (.int (n : Nat)))) := yq_lit
theorem yq_absN (h : YQ f env (.own (.fz (.int a)))) : YQ (dG (kPl oAbs) [f]) env (.own (.fz (.int a))) := by
  have := yq_abs h
  rwa [Int.natAbs_natCast] at this
theorem yq_eqN {c : Bool} (h : YQ f env (.own (.fz (.int a)))) (h2 : YQ g env (.own (.fz (.int b)))) (hc : c = decide (a = b)) : YQ (dG (kPl oEq) [f, g]) env (.own (.fz (.bool c))) := by
  have := yq_eqi h h2
  rw [hc]
  rwa [decide_eq_decide.mpr (show ((a : Int) = (b : Int)) ↔ a = b by omega)] at this
theorem yq_neN {c : Bool} (h : YQ f env (.own (.fz (.int a)))) (h2 : YQ g env (.own (.fz (.int b)))) (hc : c = decide (a ≠ b)) : YQ (dG (kPl oNe) [f, g]) env (.own (.fz (.bool c))) := by
  have := yq_nei h h2
  rw [hc]
  rwa [decide_eq_decide.mpr (show ((a : Int) ≠ (b : Int)) ↔ a ≠ b by omega)] at this
theorem yq_gtN {c : Bool} (h : YQ f env (.own (.fz (.int a)))) (h2 : YQ g env (.own (.fz (.int b)))) (hc : c = decide (b < a)) : YQ (dG (kPl oGt) [f, g]) env (.own (.fz (.bool c))) := by
  have := yq_gt h h2
  rw [hc]
  rwa [decide_eq_decide.mpr (show ((b : Int) < (a : Int)) ↔ b < a by omega)] at this
theorem yq_ltN {c : Bool} (h : YQ f env (.own (.fz (.int a)))) (h2 : YQ g env (.own (.fz (.int b)))) (hc : c = decide (a < b)) : YQ (dG (kPl oLt) [f, g]) env (.own (.fz (.bool c))) := by
  have := yq_lt h h2
  rw [hc]
  rwa [decide_eq_decide.mpr (show ((a : Int) < (b : Int)) ↔ a < b by omega)] at this
end
/-- a row of Nats as data -/
def natsD (l : List Nat) : List PyData := l.map fun x => .int (x : Nat)
theorem natsD_len (l : List Nat) : (natsD l).length = l.length := by simp [natsD]
theorem natsD_ints (l : List Nat) : natsD l = (l.map fun x : Nat => (x : Int)).map .int := by simp [natsD]
theorem ixN_of {n i : Nat} (h : i < n) : ixN n (i : Int) = some i := by
  unfold ixN
  rw [if_pos (by omega), if_pos (by omega)]
  simp
theorem atI_nats {l : List Nat} {i : Nat} (h : i < l.length) : atI (natsD l) (i : Int) = some (.int (l.getD i 0 : Nat)) := by
  unfold atI
  rw [natsD_len, ixN_of h]
  simp [natsD, h]
theorem ix_tupN {l : List Nat} {i : Nat} (h : i < l.length) : ixV (.own (.fz (.tuple (natsD l)))) (i : Int) = some (.own (.fz (.int (l.getD i 0 : Nat)))) := by
  simp only [ixV, atI_nats h, Option.map_some]
theorem ix_lstN {l : List Nat} {i : Nat} (h : i < l.length) : ixV (.own (.fz (.list (natsD l)))) (i : Int) = some (.own (.fz (.int (l.getD i 0 : Nat)))) := by
  simp only [ixV, atI_nats h, Option.map_some]
theorem ix_vwN {l : List Nat} {i : Nat} (h : i < l.length) : ixV (.vw (.lst ((natsD l).map .fz))) (i : Int) = some (.own (.fz (.int (l.getD i 0 : Nat)))) := by
  simp only [ixV, atI, List.length_map, natsD_len, ixN_of h, Option.bind_some]
  simp [natsD, h, mkVw]
theorem nats_set {l : List Nat} {i x : Nat} : ((natsD l).map M.fz).set i (.fz (.int (x : Nat))) = (natsD (l.set i x)).map .fz := by
  simp [natsD, List.map_set]
theorem nats_snoc {l : List Nat} {x : Nat} : (natsD l).map M.fz ++ [.fz (.int (x : Nat))] = (natsD (l ++ [x])).map .fz := by
  simp [natsD]
theorem nats_get {l : List Nat} {i : Nat} (h : i < l.length) : ((natsD l).map M.fz)[i]? = some (.fz (.int (l.getD i 0 : Nat))) := by simp [natsD, h]
theorem kMulL_eq (x : Val) (k : Int) : kMulL [x, .own (.fz (.int k))] = (lv x).bind fun a => if decide (-(2 ^ 63) ≤ k) && decide (k < 2 ^ 63) && decide (a.length * k.toNat ≤ SZ) then some (.own (.lst ((List.replicate k.toNat a).flatten.map .fz)), true) else none := rfl
theorem if_posb {α : Type} {c : Bool} (hc : c = true) (a b : α) : (if c then a else b) = a := by rw [hc]; rfl
theorem kmulL_of {x : Val} {ds : List PyData} {n : Nat} (hx : lv x = some ds) (hn : n ≤ 1000) (hd : ds.length ≤ 1000) : kMulL [x, .own (.fz (.int n))] = some (.own (.lst ((List.replicate n ds).flatten.map .fz)), true) := by
  have hc : (decide (-(2 ^ 63) ≤ (n : Int)) && decide ((n : Int) < 2 ^ 63) && decide (ds.length * (n : Int).toNat ≤ SZ)) = true := by
    have h1 : ds.length * n ≤ 1000 * 1000 := Nat.mul_le_mul hd hn
    have h2 : (1000 * 1000 : Nat) ≤ SZ := by decide
    simp only [Bool.and_eq_true, decide_eq_true_eq, Int.toNat_natCast]
    exact ⟨⟨by omega, by omega⟩, Nat.le_trans h1 h2⟩
  rw [kMulL_eq, hx, Option.bind_some, if_posb hc, Int.toNat_natCast]
theorem zeros_flat (n : Nat) : (List.replicate n [PyData.int 0]).flatten = natsD (List.replicate n 0) := by
  induction n with
  | zero => rfl
  | succ n ih => rw [List.replicate_succ, List.flatten_cons, ih, List.replicate_succ]; rfl
theorem kmul_zeros {n : Nat} (h : n ≤ 1000) : kMul [.own (.lst [.fz (.int 0)]), .own (.fz (.int n))] = some (.own (.lst ((natsD (List.replicate n 0)).map .fz)), true) := by
  have k1 : kMulP [.own (.lst [.fz (.int 0)]), .own (.fz (.int n))] = none := rfl
  have k2 := kmulL_of (x := .own (.lst [.fz (.int 0)])) (ds := [.int 0]) rfl h (by decide)
  rw [zeros_flat] at k2
  unfold kMul
  rw [k1, k2]; rfl
theorem kRng2_eq (i j : Int) : kRng [.own (.fz (.int i)), .own (.fz (.int j))] = if -(2 ^ 62) ≤ i ∧ i < 2 ^ 62 ∧ -(2 ^ 62) ≤ j ∧ j < 2 ^ 62 ∧ j - i ≤ SZ then some (.own (.fz (.list (rngD i (j - i).toNat))), false) else none := rfl
theorem yq_rng2 {f g : Ev → Res} {env : Ev} {a b : Nat} (h : YQ f env (.own (.fz (.int a)))) (h2 : YQ g env (.own (.fz (.int b)))) (ha : a ≤ 1000) (hb : b ≤ 1000) : YQ (dG kRng [f, g]) env (.own (.fz (.list (rngD a (b - a))))) := yq_G (b := false) (y2 h h2) (by
  have h3 : ((1000 : Nat) : Int) ≤ SZ := by decide
  rw [kRng2_eq, if_pos ⟨by omega, by omega, by omega, by omega, by omega⟩, show ((b : Int) - (a : Int)).toNat = b - a by omega])
theorem lst_natsD (l : List Nat) : lv (.own (.fz (.list (natsD l)))) = some ((l.map fun x : Nat => (x : Int)).map .int) := by
  simp [lv, natsD]
theorem nats_nd (l : List Nat) : noDict (.tuple (natsD l)) = true := noDict_tup fun x hx => by
  obtain ⟨i, _, rfl⟩ := List.mem_map.mp hx
  rfl
theorem sh_nats {k : Nat} (l : List Nat) : Sh (k + 1) (.tuple (natsD l)) := sh_tup fun x hx => by
  obtain ⟨i, _, rfl⟩ := List.mem_map.mp hx
  exact sh_int
end Q

set_option Elab.async false
set_option linter.all false
set_option maxRecDepth 100000
set_option maxHeartbeats 4000000
/-! sorted of a list of ints, of pairs of ints. -/
namespace Q
open PySem PySem.Spec PyProof.Rows L2
/-! ### insertion sort -/
section
variable {α : Type} (le : α → α → Bool)
def insB (a : α) : List α → List α
  | [] => [a]
  | b :: l => if le a b = true then a :: b :: l else b :: insB a l
def srtB : List α → List α
  | [] => []
  | a :: l => insB le a (srtB l)
theorem insB_perm (a : α) : ∀ l : List α, (insB le a l).Perm (a :: l)
  | [] => List.Perm.refl _
  | b :: l => by
    unfold insB
    split
    · exact List.Perm.refl _
    · exact ((insB_perm a l).cons b).trans (List.Perm.swap a b l)
theorem srtB_perm : ∀ l : List α, (srtB le l).Perm l
  | [] => List.Perm.refl _
  | a :: l => (insB_perm le a _).trans ((srtB_perm l).cons a)
variable {le}
theorem insB_srt (tot : ∀ a b, le a b = true ∨ le b a = true) (tr : ∀ a b c, le a b = true → le b c = true → le a c = true) (a : α) : ∀ {l : List α}, l.Pairwise (fun x y => le x y = true) → (insB le a l).Pairwise fun x y => le x y = true
  | [], _ => List.pairwise_singleton _ _
  | b :: l, h => by
    obtain ⟨h1, h2⟩ := List.pairwise_cons.mp h
    unfold insB
    split
    · rename_i hab
      refine List.pairwise_cons.mpr ⟨fun x hx => ?_, h⟩
      rcases List.mem_cons.mp hx with e | hx
      · rw [e]; exact hab
      · exact tr _ _ _ hab (h1 x hx)
    · rename_i hab
      have hba := (tot a b).resolve_left hab
      refine List.pairwise_cons.mpr ⟨fun x hx => ?_, insB_srt tot tr a h2⟩
      rcases List.mem_cons.mp ((insB_perm le a l).mem_iff.mp hx) with e | hx
      · rw [e]; exact hba
      · exact h1 x hx
theorem srtB_srt (tot : ∀ a b, le a b = true ∨ le b a = true) (tr : ∀ a b c, le a b = true → le b c = true → le a c = true) : ∀ l : List α, (srtB le l).Pairwise fun x y => le x y = true
  | [] => List.Pairwise.nil
  | a :: l => insB_srt tot tr a (srtB_srt tot tr l)
theorem srt_uniq (anti : ∀ a b, le a b = true → le b a = true → a = b) : ∀ {l m : List α}, l.Perm m → l.Pairwise (fun x y => le x y = true) → m.Pairwise (fun x y => le x y = true) → l = m
  | [], m, p, _, _ => p.nil_eq
  | a :: l, [], p, _, _ => absurd p.length_eq (by simp)
  | a :: l, b :: m, p, h1, h2 => by
    obtain ⟨a1, a2⟩ := List.pairwise_cons.mp h1
    obtain ⟨b1, b2⟩ := List.pairwise_cons.mp h2
    have e : a = b := by
      rcases List.mem_cons.mp (p.mem_iff.mp List.mem_cons_self : a ∈ b :: m) with e | h
      · exact e
      rcases List.mem_cons.mp (p.mem_iff.mpr List.mem_cons_self : b ∈ a :: l) with e | h'
      · exact e.symm
      exact anti a b (a1 b h') (b1 a h)
    subst e
    rw [srt_uniq anti (List.Perm.cons_inv p) a2 b2]
end
def leI (a b : Int) : Bool := decide (a ≤ b)
abbrev sortI (l : List Int) : List Int := srtB leI l
theorem leI_tot (a b : Int) : leI a b = true ∨ leI b a = true := by
  simp only [leI, decide_eq_true_eq]; omega
theorem leI_tr (a b c : Int) (h1 : leI a b = true) (h2 : leI b c = true) : leI a c = true := by
  simp only [leI, decide_eq_true_eq] at *; omega
theorem leI_anti (a b : Int) (h1 : leI a b = true) (h2 : leI b a = true) : a = b := by
  simp only [leI, decide_eq_true_eq] at *; omega
def leP (p q : Int × Int) : Bool := decide (p.1 < q.1) || (decide (p.1 = q.1) && decide (p.2 ≤ q.2))
theorem leP_iff {p q : Int × Int} : leP p q = true ↔ p.1 < q.1 ∨ (p.1 = q.1 ∧ p.2 ≤ q.2) := by
  simp only [leP, Bool.or_eq_true, Bool.and_eq_true, decide_eq_true_eq]
theorem leP_tot (a b : Int × Int) : leP a b = true ∨ leP b a = true := by
  rw [leP_iff, leP_iff]; omega
theorem leP_tr (a b c : Int × Int) (h1 : leP a b = true) (h2 : leP b c = true) : leP a c = true := by
  rw [leP_iff] at *; omega
theorem leP_anti (a b : Int × Int) (h1 : leP a b = true) (h2 : leP b a = true) : a = b := by
  rw [leP_iff] at *
  exact Prod.ext (by omega) (by omega)
abbrev sortP (l : List (Int × Int)) : List (Int × Int) := srtB leP l
/-! ### pairs of ints as data -/
def pairD (p : Int × Int) : PyData := .tuple [.int p.1, .int p.2]
def toPair : PyData → Option (Int × Int)
  | .tuple [.int i, .int j] => some (i, j)
  | _ => none
def pairsD : List PyData → Option (List (Int × Int))
  | [] => some []
  | d :: r => (toPair d).bind fun p => (pairsD r).map fun l => p :: l
theorem toPair_some {d : PyData} {p : Int × Int} (h : toPair d = some p) : d = pairD p := by
  unfold toPair at h
  split at h
  · cases h; rfl
  · cases h
theorem pairsD_some : ∀ {ds : List PyData} {ps : List (Int × Int)}, pairsD ds = some ps → ds = ps.map pairD
  | [], _, h => by cases h; rfl
  | d :: r, _, h => by
    unfold pairsD at h
    obtain ⟨p, h1, h2⟩ := Option.bind_eq_some_iff.mp h
    obtain ⟨l, h3, rfl⟩ := Option.map_eq_some_iff.mp h2
    rw [toPair_some h1, pairsD_some h3]; rfl
theorem pairsD_map (ps : List (Int × Int)) : pairsD (ps.map pairD) = some ps := by
  induction ps with
  | nil => rfl
  | cons p ps ih => simp [pairsD, toPair, pairD, ih] <;> rfl
section
variable {X : Cx}
/-- sorted(xs), pairs of ints: the same pairs in order -/
theorem cr_sortPO : CallR X (.builtin "sorted") (fun vs H Q => ∃ (a : Addr) (xs : List V) (g : V → Int × Int), vs = [V.ref a] ∧ SqL X.K H a xs ∧ (∀ x ∈ xs, ∃ t, x = V.ref t ∧ SqT X.K H t [V.int (g x).1, V.int (g x).2]) ∧
    ∀ (ys : List V) (p : Addr), ys.Perm xs → ys.Pairwise (fun x y => leP (g x) (g y) = true) → H p = none → Q (.ref p) (upd H p (.lst ys))) := by
  intro pns st ϱ HH us vs QQ Inn rr ⟨a, xs, g, eu, hs, hx, q⟩
  subst eu
  obtain ⟨its, rv, hl, hz⟩ := Inn.list hs
  rw [Vals.ref1 rr]
  obtain ⟨e1, e2⟩ := refs_back rv fun x m => by
    obtain ⟨t, e, _⟩ := hx x m
    exact ⟨t, e⟩
  refine SrtO.sorted_pairsO (k := fun u => g (backV u)) hl.isList (by rw [← rv.length]; exact hz) (fun v hv => ?_) fun h' d out hso hst kk hd hn => ?_
  · obtain ⟨t, rfl⟩ := e2 v hv
    have hm : V.ref t ∈ xs := by rw [e1]; exact List.mem_map.mpr ⟨_, hv, rfl⟩
    obtain ⟨t', e, ht⟩ := hx _ hm
    cases e
    obtain ⟨its2, r2, ⟨o, ho, hc, n, hd⟩, _⟩ := Inn.tuple ht
    obtain ⟨u1, u2, rfl, ri, rj⟩ := vals2 r2
    obtain ⟨t1, rfl⟩ := ri
    obtain ⟨t2, rfl⟩ := rj
    exact ⟨t, o, t1, t2, n, rfl, ho, hc, hd⟩
  · have hp := hst.perm
    have h3 : ∀ u ∈ out, ∃ a, u = Value.ref a := fun u hu => e2 u (hp.mem_iff.mp hu)
    obtain ⟨n, hn⟩ := hn
    refine ⟨.ref d, upd HH d (.lst (out.map backV)), Inn.laid (t' := st.toks) kk hd ⟨?_, out, n, vals_back h3, hn⟩, rfl, q _ d ?_ ?_ (Inn.hok.fresh hd)⟩
    · rw [List.length_map, hp.length_eq, ← rv.length]; exact hz
    · rw [e1]; exact hp.map backV
    · refine List.pairwise_map.mpr (hso.imp fun {x y} h => ?_)
      have := SrtO.lexB_no.mp h
      rw [leP_iff]
      omega
end
/-! ### by what the values say -/
def kSortI : List Val → Option (Val × Bool)
  | [x] => (lv x).bind fun ds => (intsD ds).map fun ns => (.own (.lst ((sortI ns).map fun n => .fz (.int n))), true)
  | _ => none
def kSortP : List Val → Option (Val × Bool)
  | [x] => (lv x).bind fun ds => (pairsD ds).map fun ps => (.own (.lst ((sortP ps).map fun p => .fz (pairD p))), true)
  | _ => none
def kSort (xs : List Val) : Option (Val × Bool) := (kSortI xs).orElse fun _ => kSortP xs
theorem rms_ints {K : PySem.W.Frag} {H : Hp} {G : Addr → Prop} : ∀ ns : List Int, RMs K H G (ns.map V.int) (ns.map fun n => .fz (.int n)) []
  | [] => .nil
  | n :: ns => .cons (F := []) (.fz (.int n)) (rms_ints ns)
theorem callv_sortI {X : Cx} : CallV X (.builtin "sorted") kSortI := by
  refine ⟨_, cr_sortedI, fun Z O env env' σ H H' vs xs z b q Q pl he kk => ?_⟩
  unfold kSortI at he
  split at he
  case h_2 => cases he
  rename_i x
  obtain ⟨ds, ea, he⟩ := Option.bind_eq_some_iff.mp he
  obtain ⟨ns, eb, e2⟩ := Option.map_eq_some_iff.mp he
  cases e2
  have hl := pl.len
  obtain ⟨O', F, pa⟩ := id pl.ex
  match vs, hl, pl, pa with
  | [v], _, pl, pa =>
    obtain ⟨a, ws, rfl, h2, h3⟩ := pa.2.1.lv ea
    refine ⟨a, ns, rfl, by rw [← h3.intsD eb]; exact .inl h2, fun ns' p hp hs hn => ?_⟩
    have e : ns' = sortI ns := srt_uniq leI_anti (hp.trans (srtB_perm leI ns).symm) (hs.imp fun h => decide_eq_true h) (srtB_srt leI_tot leI_tr ns)
    rw [e]
    exact kk _ _ (pa.newL (rms_ints _) (List.nil_sublist _) hn)
theorem rf_pair {K : PySem.W.Frag} {H : Hp} {G : Addr → Prop} {v : V} {p : Int × Int} (r : RF K H G v (pairD p)) : ∃ t, v = .ref t ∧ SqN K H t [V.int p.1, V.int p.2] := by
  cases r with
  | tup h rs =>
    cases rs with
    | cons r1 rs =>
      cases rs with
      | cons r2 rs =>
        cases rs
        cases r1.intI
        cases r2.intI
        exact ⟨_, rfl, h⟩
open Classical in
/-- the pair that stands at a value -/
noncomputable def pairAt (K : PySem.W.Frag) (H : Hp) (v : V) : Int × Int := if h : ∃ p : Int × Int, ∃ t, v = .ref t ∧ SqT K H t [V.int p.1, V.int p.2] then h.choose else (0, 0)
theorem pairAt_of {X : Cx} {pins : List (Addr × Obj)} {σ : L2.St} {H : Hp} {s : Shared} {t : Addr} {p : Int × Int} (I : Inv X pins σ H s) (h : SqT X.K H t [V.int p.1, V.int p.2]) : pairAt X.K H (.ref t) = p := by
  have ex : ∃ p : Int × Int, ∃ t', V.ref t = .ref t' ∧ SqT X.K H t' [V.int p.1, V.int p.2] := ⟨p, t, rfl, h⟩
  unfold pairAt
  rw [dif_pos ex]
  obtain ⟨t', e, h2⟩ := ex.choose_spec
  cases e
  have := I.tuple_inj h h2
  injection this with e1 e2
  injection e2 with e2 _
  injection e1 with e1
  injection e2 with e2
  exact Prod.ext e1.symm e2.symm
theorem pairs_map {X : Cx} {pins : List (Addr × Obj)} {σ : L2.St} {H : Hp} {s : Shared} (I : Inv X pins σ H s) : ∀ {xs : List V} {ps : List (Int × Int)}, RFs X.K H Top xs (ps.map pairD) → xs.map (pairAt X.K H) = ps ∧ ∀ x ∈ xs, ∃ t, x = V.ref t ∧ SqN X.K H t [V.int (pairAt X.K H x).1, V.int (pairAt X.K H x).2]
  | [], [], _ => ⟨rfl, fun _ h => by cases h⟩
  | x :: xs, p :: ps, .cons r rs => by
    obtain ⟨t, rfl, ht⟩ := rf_pair r
    have e := pairAt_of I ht.t
    obtain ⟨h1, h2⟩ := pairs_map I rs
    refine ⟨by rw [List.map_cons, e, h1], fun y hy => ?_⟩
    rcases List.mem_cons.mp hy with rfl | hy
    · exact ⟨t, rfl, by rw [e]; exact ht⟩
    · exact h2 y hy
theorem rfs_pairs {K : PySem.W.Frag} {H : Hp} {G : Addr → Prop} {g : V → Int × Int} : ∀ {ys : List V}, (∀ y ∈ ys, ∃ t, y = V.ref t ∧ SqN K H t [V.int (g y).1, V.int (g y).2]) → RFs K H G ys ((ys.map g).map pairD)
  | [], _ => .nil
  | y :: ys, h => by
    obtain ⟨t, e, ht⟩ := h y List.mem_cons_self
    refine .cons ?_ (rfs_pairs fun z hz => h z (List.mem_cons_of_mem _ hz))
    show RF K H G y (.tuple [.int (g y).1, .int (g y).2])
    generalize g y = p at ht ⊢
    subst e
    exact .tup ht (.cons (.int _) (.cons (.int _) .nil))
theorem cr_sortD {X : Cx} : CallR X (.builtin "sorted") (fun vs H Q => ∃ (a : Addr) (xs : List V) (ps : List (Int × Int)), vs = [V.ref a] ∧ SqL X.K H a xs ∧ RFs X.K H Top xs (ps.map pairD) ∧
    ∀ (ys : List V) (d : Addr), (∀ G, RFs X.K H G ys ((sortP ps).map pairD)) → H d = none → Q (.ref d) (upd H d (.lst ys))) := by
  intro pns st ϱ HH us vs QQ Inn rr ⟨a, xs, ps, eu, hs, hr, q⟩
  obtain ⟨h1, h2⟩ := pairs_map Inn hr
  refine cr_sortPO pns st ϱ HH us vs QQ Inn rr ⟨a, xs, pairAt X.K HH, eu, hs, fun x hx => (h2 x hx).imp fun t z => ⟨z.1, z.2.t⟩, fun ys d hp hso hn => q ys d (fun G => ?_) hn⟩
  have e : ys.map (pairAt X.K HH) = sortP ps := srt_uniq leP_anti ((by rw [← h1]; exact hp.map _ : (ys.map (pairAt X.K HH)).Perm ps).trans (srtB_perm leP ps).symm) (List.pairwise_map.mpr hso) (srtB_srt leP_tot leP_tr ps)
  rw [← e]
  exact rfs_pairs fun y hy => h2 y (hp.mem_iff.mp hy)
theorem rfs_rms {K : PySem.W.Frag} {H : Hp} {G : Addr → Prop} {f : α → PyData} : ∀ {ys : List V} {ps : List α}, RFs K H G ys (ps.map f) → RMs K H G ys (ps.map fun p => .fz (f p)) []
  | [], [], _ => .nil
  | y :: ys, p :: ps, .cons r rs => .cons (F := []) (.fz r) (rfs_rms rs)
theorem callv_sortP {X : Cx} : CallV X (.builtin "sorted") kSortP := by
  refine ⟨_, cr_sortD, fun Z O env env' σ H H' vs xs z b q Q pl he kk => ?_⟩
  unfold kSortP at he
  split at he
  case h_2 => cases he
  rename_i x
  obtain ⟨ds, ea, he⟩ := Option.bind_eq_some_iff.mp he
  obtain ⟨ps, eb, e2⟩ := Option.map_eq_some_iff.mp he
  cases e2
  have hl := pl.len
  obtain ⟨O', F, pa⟩ := id pl.ex
  match vs, hl, pl, pa with
  | [v], _, pl, pa =>
    obtain ⟨a, ws, rfl, h2, h3⟩ := pa.2.1.lv ea
    rw [pairsD_some eb] at h3
    exact ⟨a, ws, ps, rfl, .inl h2, h3.imp fun _ _ => trivial, fun ys d hy hn => kk _ _ (pa.newL (rfs_rms (hy _)) (List.nil_sublist _) hn)⟩
theorem callv_sort {X : Cx} : CallV X (.builtin "sorted") kSort := callv_sortI.or callv_sortP
section
variable {f : Ev → Res} {env : Ev} {x : Val}
theorem ksort_I {ns : List Int} (h : lv x = some (ns.map .int)) : kSort [x] = some (.own (.lst ((sortI ns).map fun n => .fz (.int n))), true) := by
  simp only [kSort, kSortI, h, Option.bind_some, intsD_map, Option.map_some]
  rfl
theorem ksort_P {p : Int × Int} {ps : List (Int × Int)} (h : lv x = some ((p :: ps).map pairD)) : kSort [x] = some (.own (.lst ((sortP (p :: ps)).map fun p => .fz (pairD p))), true) := by
  have e : intsD ((p :: ps).map pairD) = none := rfl
  simp only [kSort, kSortI, kSortP, h, Option.bind_some, pairsD_map, Option.map_some, e, Option.map_none]
  rfl
end
end Q

set_option Elab.async false
set_option linter.all false
set_option maxRecDepth 100000
set_option maxHeartbeats 4000000
/-! min, max, < <= > >= of data that are alike; for over a list that a name owns. -/
namespace Q
open PySem PySem.Spec PyProof.Rows L2
/-! ### order of data -/
def okD (a b : PyData) : Bool := PySem.W.alike a b && (SeqAt.shaped a && SeqAt.shaped b) && (match a with | .none => false | _ => true)
theorem okD_ne {a b : PyData} (h : okD a b = true) : PySem.W.alike a b = true ∧ SeqAt.shaped a = true ∧ SeqAt.shaped b = true ∧ a ≠ .none := by
  unfold okD at h
  rw [Bool.and_eq_true, Bool.and_eq_true, Bool.and_eq_true] at h
  exact ⟨h.1.1, h.1.2.1, h.1.2.2, fun z => by rw [z] at h; cases h.2⟩
theorem shaped_depth {a : PyData} (h : SeqAt.shaped a = true) : a.depth ≤ 64 := by
  unfold SeqAt.shaped at h
  rw [Bool.and_eq_true] at h
  exact of_decide_eq_true h.2
def oCmpD (r : PyData → PyData → Bool) : List PyData → Option PyData
  | [a, b] => if okD a b = true then some (.bool (r a b)) else none
  | _ => none
section
variable {X : Cx}
theorem opr_data {op : CmpOp} {r : PyData → PyData → Bool} (hu : X.A.units + 65 < cLine)
    (rule : ∀ {s : Shared} {a b : Value} {da db : PyData} {as bs : List Addr} {Q : Value → Shared → Prop}, PySem.Reads s.heap a da as → PySem.Reads s.heap b db bs → PySem.W.alike da db = true → da ≠ .none → X.A.units + min da.depth db.depth < cLine → Q (.bool (r da db)) s → wpAny (model X.prog X.w) X.A (compareOp op a b) Q X.xe s) :
    OpD X (compareOp op) (oCmpD r) := by
  refine ⟨fun x y H Q => ∃ d e, Dp X.K H x d ∧ Dp X.K H y e ∧ okD d e = true ∧ Q (.bl (r d e)) H, fun pns st ϱ HH x y v u QQ Inn rx ry ⟨d, e, h1, h2, ok, q⟩ => ?_, fun v w H Q ds d hd he k => ?_⟩
  · obtain ⟨as, r1⟩ := Dp.reads Inn d x v h1 rx
    obtain ⟨bs, r2⟩ := Dp.reads Inn e y u h2 ry
    obtain ⟨o1, o2, o3, o4⟩ := okD_ne ok
    have := shaped_depth o2
    exact rule r1 r2 o1 o4 (by omega) ⟨.bl _, HH, Inn, rfl, q⟩
  · unfold oCmpD at he
    split at he
    · split at he
      · rename_i a b ok
        cases he
        obtain ⟨r1, r2⟩ := hd.two
        exact ⟨a, b, r1.dp, r2.dp, ok, k _ fun G => .bl _⟩
      · cases he
    · cases he
theorem opd_leD (hu : X.A.units + 65 < cLine) : OpD X (compareOp .LtE) (oCmpD fun a b => !PySem.W.dataLt b a) := opr_data hu fun r1 r2 h hn hd q => PySem.W.le_data r1 r2 h hn hd q
theorem opd_ltD (hu : X.A.units + 65 < cLine) : OpD X (compareOp .Lt) (oCmpD fun a b => PySem.W.dataLt a b) := opr_data hu fun r1 r2 h hn hd q => PySem.W.lt_data r1 r2 h hn hd q
end
/-! ### min, max of a list of data -/
def alikes (ds : List PyData) : Bool := ds.all (fun x => ds.all fun y => PySem.W.alike x y) && ds.all fun x => match x with
  | .none => false
  | _ => true
theorem alikes_all {ds : List PyData} (h : alikes ds = true) : PySem.W.AlikeAll ds := by
  unfold alikes at h
  rw [Bool.and_eq_true, List.all_eq_true, List.all_eq_true] at h
  exact ⟨fun x hx y hy => List.all_eq_true.mp (h.1 x hx) y hy, fun x hx z => by have := h.2 x hx; rw [z] at this; cases this⟩
/-- the first of the least (the greatest), a datum without lists -/
def oBest (best : PyData → List PyData → PyData) : List PyData → Option PyData
  | [.list (d :: ds)] => if (alikes (d :: ds) && SeqAt.shaped (.list (d :: ds)) && noL (best d ds)) = true then some (best d ds) else none
  | _ => none
theorem depth_all_le {ds : List PyData} (h : SeqAt.shaped (.list ds) = true) : PyData.depthAll ds ≤ 63 := by
  have := shaped_depth h
  unfold PyData.depth at this
  omega
section
variable {X : Cx}
theorem vals_back {ws : List V} {its : List Value} (r : Vals ws its) {i : Nat} {u : Value} (h : its[i]? = some u) : ∃ w, ws[i]? = some w ∧ RelV w u := by
  induction r generalizing i with
  | nil => simp at h
  | cons r rs ih =>
    cases i with
    | zero => simp at h; subst h; exact ⟨_, rfl, r⟩
    | succ i => obtain ⟨w, h1, h2⟩ := ih (i := i) (by simpa using h); exact ⟨w, by simpa using h1, h2⟩
theorem rfs_at {K : PySem.W.Frag} {H : Hp} {G : Addr → Prop} {ws : List V} {ds : List PyData} {i : Nat} {w : V} (r : RFs K H G ws ds) (h : ws[i]? = some w) : ∃ d, ds[i]? = some d ∧ RF K H G w d := by
  have hi := (List.getElem?_eq_some_iff.mp h).1
  have hl := r.length
  obtain ⟨v, h1, h2⟩ := r.get (List.getElem?_eq_getElem (show i < ds.length by omega))
  rw [h] at h1; cases h1
  exact ⟨_, List.getElem?_eq_getElem _, h2⟩
theorem callv_best {nm : String} {best : PyData → List PyData → PyData} (hc : X.calm = true) (hu : X.A.units + 65 < cLine) (hmem : ∀ d ds, best d ds ∈ d :: ds)
    (rule : X.A.handled = none → ∀ {s : Shared} {l : Addr} {vs : Array Value} {x : PyData} {xs : List PyData} {as : List Addr} {Q : Value → Shared → Prop}, s.heap.IsList l vs → PySem.ReadsAll s.heap vs.toList (x :: xs) as → PySem.W.AlikeAll (x :: xs) → X.A.units + 1 + PyData.depthAll (x :: xs) < cLine →
      (∀ (i : Nat) v h' tk bs, vs[i]? = some v → PySem.Reads h' v (best x xs) bs → (∀ b o, s.heap.get? b = some o → h'.get? b = some o) → Q v { s with heap := h', toks := tk }) → wpAny (model X.prog X.w) X.A (call (.builtin nm) [.ref l]) Q X.xe s) :
    CallV X (.builtin nm) (kPl (oBest best)) := by
  refine callv_of (r := fun vs H Q => ∃ (a : Addr) (ws : List V) (d : PyData) (ds : List PyData), vs = [V.ref a] ∧ SqL X.K H a ws ∧ RFs X.K H Top ws (d :: ds) ∧ alikes (d :: ds) = true ∧ SeqAt.shaped (.list (d :: ds)) = true ∧ noL (best d ds) = true ∧ ∀ v, (∀ G, RF X.K H G v (best d ds)) → Q v H) (fun pns st ϱ HH us vs QQ Inn rr ⟨a, ws, d, ds, eu, hs, hr, ha, hsh, hn, q⟩ => ?_) fun vs H Q ds d hd he k => ?_
  · subst eu
    obtain ⟨its, rv, hl, _⟩ := Inn.list hs
    rw [Vals.ref1 rr]
    obtain ⟨as, h4⟩ := Dp.readsAll Inn (d :: ds) ws its hr.dp rv
    have hd := depth_all_le hsh
    refine rule (Inn.ok.hd hc) hl.isList (by simpa using h4) (alikes_all ha) (by omega) fun i v h' tk bs hv hrd kk => ?_
    obtain ⟨w, hw, rw_⟩ := vals_back rv (by simpa using hv)
    obtain ⟨d', hd', rd⟩ := rfs_at hr hw
    obtain ⟨bs', r2⟩ := Dp.reads Inn d' w v rd.dp rw_
    have cl : ∀ x ∈ d :: ds, x.canLay0 = true := fun x hx => by
      have h0 := SeqAt.canLay_of_shaped hsh
      have h1 : PyData.canLayAll0 (d :: ds) = true := h0
      have key : ∀ l : List PyData, PyData.canLayAll0 l = true → ∀ x ∈ l, x.canLay0 = true := by
        intro l
        induction l with
        | nil => intro _ x hx; cases hx
        | cons y l ih =>
          intro h x hx
          unfold PyData.canLayAll0 at h
          rw [Bool.and_eq_true] at h
          rcases List.mem_cons.mp hx with e | hx
          · rw [e]; exact h.1
          · exact ih h.2 x hx
      exact key _ h1 x hx
    have e1 := SeqAt.readOf_eq (cl _ (List.mem_of_getElem? hd')) (PySem.W.reads_keeps kk r2)
    have e2 := SeqAt.readOf_eq (cl _ (hmem d ds)) hrd
    rw [e1] at e2
    subst e2
    exact ⟨w, HH, Inn.kept kk, rw_, q w fun G => rd.noG hn⟩
  · unfold oBest at he
    split at he
    · rename_i d0 ds0
      split at he
      · rename_i h0
        cases he
        rw [Bool.and_eq_true, Bool.and_eq_true] at h0
        obtain ⟨v, rfl, r⟩ := hd.v1
        cases r with
        | lst h g rs => exact ⟨_, _, d0, ds0, rfl, .inl h, rs, h0.1.1, h0.1.2, h0.2, fun v h => k v h⟩
      · cases he
    · cases he
theorem minD_mem (d : PyData) (ds : List PyData) : PySem.W.minD d ds ∈ d :: ds := by
  unfold PySem.W.minD
  induction ds generalizing d with
  | nil => exact List.mem_cons_self
  | cons y ds ih =>
    rw [List.foldl_cons]
    have := ih (if PySem.W.dataLt y d then y else d)
    rcases List.mem_cons.mp this with e | h
    · rw [e]
      split
      · exact List.mem_cons_of_mem _ List.mem_cons_self
      · exact List.mem_cons_self
    · exact List.mem_cons_of_mem _ (List.mem_cons_of_mem _ h)
theorem callv_minD (hc : X.calm = true) (hu : X.A.units + 65 < cLine) : CallV X (.builtin "min") (kPl (oBest PySem.W.minD)) :=
  callv_best hc hu minD_mem fun hh {s l vs x xs as Q} hl hr ha hd h => PySem.W.min_list_data hh hl hr ha hd h
def kMinA (xs : List Val) : Option (Val × Bool) := (kPl oMin xs).orElse fun _ => kPl (oBest PySem.W.minD) xs
theorem callv_minA (hc : X.calm = true) (hu : X.A.units + 65 < cLine) : CallV X (.builtin "min") kMinA := (callv_min hc).or (callv_minD hc hu)
end
/-! ### for over a list that a name owns: the name is out of sight meanwhile -/
def isNon (e : Ev) (s : Nat) : Bool := match e[s]? with
  | some none => true
  | _ => false
def restO (s : Nat) (m : M) : Out → Out
  | .nx e => if isNon e s = true then .nx (e.set s (some m)) else .stuck
  | .ret m' e => .ret m' e
  | .exn c e => .exn c e
  | _ => .stuck
/-- the ints of an owned list -/
def lstInts : Option (Option M) → Option (List Int)
  | some (some (.lst ms)) => (leaves ms).bind intsD
  | _ => none
def dForO (p : Tg) (en : Bool) (s : Nat) (b : Ev → Out) : Ev → Out := fun env => match lstInts env[s]? with
  | some ns => restO s (.lst (ns.map fun n => .fz (.int n))) (runF p b (match en with
    | true => enD (ns.map .int)
    | false => ns.map .int) (env.set s none))
  | none => .stuck
theorem lstInts_some {x : Option (Option M)} {ns : List Int} (h : lstInts x = some ns) : x = some (some (.lst (ns.map fun n => .fz (.int n)))) := by
  unfold lstInts at h
  split at h
  · rename_i ms
    obtain ⟨ds, h1, h2⟩ := Option.bind_eq_some_iff.mp h
    have key : ∀ (ms : List M) (ds : List PyData) (ns : List Int), leaves ms = some ds → intsD ds = some ns → ms = ns.map fun n => .fz (.int n) := by
      intro ms
      induction ms with
      | nil => intro ds ns h1 h2; cases h1; cases h2; rfl
      | cons m ms ih =>
        intro ds ns h1 h2
        cases m with
        | fz d =>
          unfold leaves at h1
          obtain ⟨l, h3, rfl⟩ := Option.map_eq_some_iff.mp h1
          cases d with
          | int i =>
            unfold intsD at h2
            obtain ⟨k, h4, rfl⟩ := Option.map_eq_some_iff.mp h2
            rw [ih l k h3 h4]; rfl
          | none => cases h2
          | bool _ => cases h2
          | str _ => cases h2
          | list _ => cases h2
          | tuple _ => cases h2
          | dict _ => cases h2
        | lst _ => cases h1
        | tup _ => cases h1
        | dK _ _ => cases h1
        | dT _ _ => cases h1
    rw [key ms ds ns h1 h2]
  · cases h
/-- the iterator gives ds, while I stands; nothing in the items is a list -/
structure LiveI (K : PySem.W.Frag) (J : It) (ds : List PyData) (I : Hp → Prop) : Prop where
  goes : ∀ i H, i < ds.length → I H → J.go i H
  stops : ∀ H, I H → J.stop ds.length H
  yields : ∀ i H x H' d, ds[i]? = some d → I H → J.yld i H x H' → (∀ a o, H a = some o → H' a = some o) ∧ ∀ G, RF K H' G x d
theorem rfs_ints {K : PySem.W.Frag} {H : Hp} {G : Addr → Prop} : ∀ ns : List Int, RFs K H G (ns.map V.int) (ns.map .int)
  | [] => .nil
  | n :: ns => .cons (.int n) (rfs_ints ns)
section
variable {K : PySem.W.Frag}
theorem liveI_list {a : Addr} {ns : List Int} : LiveI K (Itl K a) (ns.map .int) (fun H => H a = some (.lst (ns.map V.int))) where
  goes := fun i H hi h => ⟨ns.map V.int, (ns.map V.int)[i]'(by simpa using hi), .inl (.inl h), List.getElem?_eq_getElem _⟩
  stops := fun H h => ⟨ns.map V.int, .inl (.inl h), by simp⟩
  yields := fun i H x H' d hd h y => by
    obtain ⟨e, y⟩ := y
    subst e
    refine ⟨fun _ _ e => e, fun G => ?_⟩
    obtain ⟨v, e1, r1⟩ := (rfs_ints (K := K) (H := H') (G := G) ns).get hd
    have := y _ (.inl (.inl h))
    rw [e1] at this; cases this
    exact r1
theorem liveI_en {a : Addr} {ns : List Int} : LiveI K (EnL K a) (enD (ns.map .int)) (fun H => H a = some (.lst (ns.map V.int))) where
  goes := fun i H hi h => ⟨ns.map V.int, (ns.map V.int)[i]'(by rw [enD_len] at hi; simpa using hi), .inl (.inl h), List.getElem?_eq_getElem _⟩
  stops := fun H h => ⟨ns.map V.int, .inl (.inl h), by rw [enD_len]; simp⟩
  yields := fun i H x H2 d hd h y => by
    obtain ⟨T, w, ob, rfl, hn, rfl, ho, hw⟩ := y
    obtain ⟨d', hd', rfl⟩ := enD_get hd
    refine ⟨fun c o e => upd_keep hn c o e, fun G => ?_⟩
    obtain ⟨v, e1, r1⟩ := (rfs_ints (K := K) (H := H) (G := G) ns).get hd'
    have := hw _ (.inl (.inl h))
    rw [e1] at this; cases this
    exact (pair_new hn ho (.int _) r1).2
end
def ioS (io : Nat → Bool) (s : Nat) : Nat → Bool := fun i => io i || i == s
theorem Held.less {io : Nat → Bool} {s : Nat} {σ σ' : L2.St} (h : Held (ioS io s) σ σ') : Held io σ σ' := ⟨h.1, fun i hi => h.2 i (by unfold ioS; rw [hi]; rfl)⟩
theorem Held.at_s {io : Nat → Bool} {s : Nat} {σ σ' : L2.St} (h : Held (ioS io s) σ σ') : σ'[s]? = σ[s]? := h.2 s (by unfold ioS; simp)
section
variable {K : PySem.W.Frag} {mg : Str → Option Value} {W : WX} {io : Nat → Bool} {D : Ends} {Z : Addr → Prop} {O : List Addr} {σ : L2.St} {H : Hp}
theorem rms_intsI {G : Addr → Prop} : ∀ {ns : List Int} {xs : List V} {F : List Addr}, RMs K H G xs (ns.map fun n => .fz (.int n)) F → xs = ns.map V.int ∧ F = []
  | [], _, _, .nil => ⟨rfl, rfl⟩
  | n :: ns, _, _, .cons h r => by
    obtain ⟨h1, rfl⟩ := h.fzD
    cases h1.intI
    obtain ⟨rfl, rfl⟩ := rms_intsI (ns := ns) r
    exact ⟨rfl, rfl⟩
/-- the name's list is let out of its slot -/
theorem SI.lend {env : Ev} {s : Nat} {ns : List Int} (I : SI K Z O env σ H) (e : env[s]? = some (some (.lst (ns.map fun n => .fz (.int n))))) :
    ∃ a O', σ[s]? = some (some (.ref a)) ∧ H a = some (.lst (ns.map V.int)) ∧ SI K (Zp Z [a]) O' (env.set s none) σ H ∧ ¬ Z a ∧ Step O H O' [a] H := by
  obtain ⟨O', v, F, h1, I2, r, nd, nz, st⟩ := SI.take I e
  cases r with
  | lst ha rs =>
    obtain ⟨rfl, rfl⟩ := rms_intsI rs
    exact ⟨_, O', h1, ha, I2, nz _ List.mem_cons_self, st⟩
/-- .. and comes back -/
theorem SI.back {env : Ev} {s : Nat} {ns : List Int} {a : Addr} {O' : List Addr} {σ' : L2.St} {H' : Hp} (I : SI K (Zp Z [a]) O' env σ' H') (e : env[s]? = some none) (ha : H' a = some (.lst (ns.map V.int))) (hs : σ'[s]? = some (some (.ref a))) (nz : ¬ Z a) (st : Step O H O' [a] H') :
    ∃ O2, SI K Z O2 (env.set s (some (.lst (ns.map fun n => .fz (.int n))))) σ' H' ∧ Step O H O2 [] H' := by
  have na : a ∉ O' := fun h => I.nz a h (.inr List.mem_cons_self)
  have key : ∀ ns : List Int, RMs K H' (fun b => ¬ Z b ∧ b ∉ O' ∧ b ∉ [a]) (ns.map V.int) (ns.map fun n => .fz (.int n)) [] := fun ns => rms_ints ns
  have r : RM K H' (fun b => ¬ Z b ∧ b ∉ O' ∧ b ∉ [a]) (.ref a) (.lst (ns.map fun n => .fz (.int n))) [a] := .lst ha (key ns)
  obtain ⟨O2, I2, st2⟩ := SI.put (O := O) (H := H) I (i := s) (List.getElem?_eq_some_iff.mp e).1 r (List.pairwise_singleton _ _) (fun b hb z => nz (by rw [← List.mem_singleton.mp hb]; exact z)) st
  have e2 : σ'.set s (some (.ref a)) = σ' := by
    apply List.ext_getElem?
    intro j
    by_cases hj : s = j
    · subst hj
      rw [List.getElem?_set_self (List.getElem?_eq_some_iff.mp hs).1, hs]
    · rw [List.getElem?_set_ne hj]
  rw [e2] at I2
  exact ⟨O2, I2, st2⟩
/-- what follows, told from behind the loan -/
theorem EndS.lent {s a : Nat} {O' : List Addr} {σ' : L2.St} {H' : Hp} {m : M} {r : Out} (st : Step O H O' [a] H') (hd : Held (ioS io s) σ σ') (h : EndS K mg W io D Z O σ H (restO s m r)) : match r with
    | .ret m' e => EndS K mg W (ioS io s) D (Zp Z [a]) O' σ' H' (.ret m' e)
    | .exn c e => EndS K mg W (ioS io s) D (Zp Z [a]) O' σ' H' (.exn c e)
    | _ => True := by
  cases r with
  | nx e => trivial
  | brk e => trivial
  | ct e => trivial
  | stuck => trivial
  | ret m' e =>
    intro v σ2 H2 p
    obtain ⟨O2, F, I, rm, nd, nz, st2⟩ := p.ex
    refine h v σ2 H2 ⟨⟨O2, F, I.weak fun b z => ?_, rm.imp fun b g => ⟨fun z => g.1 (.inl z), g.2.1, g.2.2⟩, nd, fun b hb z => nz b hb (.inl z), (st.trans st2).weak fun b hb => List.mem_append_right _ hb⟩, (hd.trans p.io).less⟩
    rcases z with z | z
    · exact .inl (.inl z)
    · exact .inr z
  | exn c e =>
    intro cls d σ2 H2 p
    obtain ⟨O2, I, st2⟩ := p.ex
    exact h cls d σ2 H2 ⟨⟨O2, I.weak fun b z => .inl z, (st.trans st2).weak fun _ z => nomatch z⟩, (hd.trans p.io).less, p.er⟩
end
section
variable {X : Cx} {io : Nat → Bool} {b : Ev → Out} {p : Tg} {ss : List Stmt} {e iter tg : Expr} {pos : Pos}
theorem forO_core {W : WX} {s : Nat} {D : Ends} {σ : L2.St} {H : Hp} {Z : Addr → Prop} {O O1 : List Addr} {env : Ev} {a : Addr} {ns : List Int} (I1 : SI X.K (Zp Z [a]) O1 env σ H) (nz : ¬ Z a) (st1 : Step O H O1 [a] H) (hsl : σ[s]? = some (some (.ref a))) (ha : H a = some (.lst (ns.map V.int)))
    (J : It) (ds : List PyData) (L : LiveI X.K J ds (fun H => H a = some (.lst (ns.map V.int)))) (h : EndS X.K X.mg W io D Z O σ H (restO s (.lst (ns.map fun n => .fz (.int n))) (runF p b ds env))) :
    ∃ W' : Nat → Nat → L2.St → Hp → Prop, (∃ m, W' 0 m σ H) ∧ ∀ i m σ H, W' i m σ H → (J.stop i H ∧ D.nx σ H) ∨ (J.go i H ∧ ∃ N : L2.St → Hp → Prop, (∀ σ' H', N σ' H' → ∃ m', m' < m ∧ W' (i + 1) m' σ' H') ∧ ∀ x H', J.yld i H x H' → TUG X.K (ioS io s) false p x σ H' fun σ2 H2 => TUS X.K X.mg W (ioS io s) b { D with nx := N, ct := N, bk := D.nx } σ2 H2) := by
  have wk : L2.Walk J ds.length (fun H => H a = some (.lst (ns.map V.int))) (fun i H x H' => ∀ d, ds[i]? = some d → (∀ a o, H a = some o → H' a = some o) ∧ ∀ G, RF X.K H' G x d) :=
    ⟨fun i H hi s => L.goes i H hi s, fun H s => L.stops H s, fun i H x H' hi s y d hd => L.yields i H x H' d hd s y⟩
  -- the end of the walk
  have fin : ∀ {e' : Ev} {O' : List Addr} {σ' : L2.St} {H' : Hp}, SI X.K (Zp Z [a]) O' e' σ' H' → H' a = some (.lst (ns.map V.int)) → Held (ioS io s) σ σ' → Step O H O' [a] H' → EndS X.K X.mg W io D Z O σ H (restO s (.lst (ns.map fun n => .fz (.int n))) (.nx e')) → D.nx σ' H' := fun {e' O' σ' H'} I' ha' hd st h => by
    have e0 : restO s (.lst (ns.map fun n => .fz (.int n))) (.nx e') = if isNon e' s = true then .nx (e'.set s (some (.lst (ns.map fun n => .fz (.int n))))) else .stuck := rfl
    rw [e0] at h
    by_cases hn : isNon e' s = true
    · rw [if_pos hn] at h
      have hn2 : e'[s]? = some none := by
        unfold isNon at hn
        split at hn
        · assumption
        · cases hn
      obtain ⟨O2, I2, st2⟩ := SI.back I' hn2 ha' (by rw [hd.at_s]; exact hsl) nz st
      exact h σ' H' ⟨⟨O2, I2, st2⟩, hd.less⟩
    · rw [if_neg hn] at h
      exact h.elim
  refine for_it wk (fun i σ' H' => ∃ O' e', SI X.K (Zp Z [a]) O' e' σ' H' ∧ H' a = some (.lst (ns.map V.int)) ∧ Held (ioS io s) σ σ' ∧ Step O H O' [a] H' ∧ EndS X.K X.mg W io D Z O σ H (restO s (.lst (ns.map fun n => .fz (.int n))) (runF p b (ds.drop i) e'))) ⟨O1, env, I1, ha, Held.refl, st1, h⟩ (fun i σ' H' _ ⟨O', e', _, s', _⟩ => s') ?_ ?_
  · rintro i x σ2 H2 H3 hi ⟨O2, e2, I2, a2, hd2, st2, h2⟩ y
    obtain ⟨gr, r⟩ := y ds[i] (List.getElem?_eq_getElem hi)
    have I3 := I2.grow gr
    have st3 : Step O2 H2 O2 [] H3 := ⟨fun a o n e => ⟨gr a o e, n, fun z => nomatch z⟩⟩
    have a3 := gr _ _ a2
    rw [List.drop_eq_getElem_cons hi] at h2
    unfold runF at h2
    refine ⟨Zp Z [a], O2, e2, ds[i], I3, r _, ?_⟩
    cases ep : p ds[i] e2 with
    | none => rw [ep] at h2; exact h2.elim
    | some e4 =>
      simp only [ep] at h2
      intro σ4 H4 p4 _
      obtain ⟨O4, I4, st4⟩ := p4.ex
      have na2 : a ∉ O2 := fun z => I2.nz a z (.inr List.mem_cons_self)
      have na4 : a ∉ O4 := fun z => I4.nz a z (.inr List.mem_cons_self)
      have a4 := (st4.keep a _ na2 a3).1
      have st24 : Step O H O4 [a] H4 := ((st2.trans st3).trans st4).weak fun b hb => by simpa using hb
      have hd4 := hd2.trans p4.io
      refine ⟨Zp Z [a], O4, e4, I4, ?_⟩
      have again : ∀ {e5 : Ev}, EndS X.K X.mg W io D Z O σ H (restO s (.lst (ns.map fun n => .fz (.int n))) (runF p b (ds.drop (i + 1)) e5)) → ∀ σ' H', PostS X.K (Zp Z [a]) O4 (ioS io s) σ4 H4 e5 σ' H' → ∃ O' e', SI X.K (Zp Z [a]) O' e' σ' H' ∧ H' a = some (.lst (ns.map V.int)) ∧ Held (ioS io s) σ σ' ∧ Step O H O' [a] H' ∧ EndS X.K X.mg W io D Z O σ H (restO s (.lst (ns.map fun n => .fz (.int n))) (runF p b (ds.drop (i + 1)) e')) := fun {e5} h5 σ' H' p5 => by
        obtain ⟨O5, I5, st5⟩ := p5.ex
        exact ⟨O5, e5, I5, (st5.keep a _ na4 a4).1, hd4.trans p5.io, (st24.trans st5).weak fun b hb => by simpa using hb, h5⟩
      cases eb : b e4 with
      | nx e5 => rw [eb] at h2; exact again h2
      | ct e5 => rw [eb] at h2; exact again h2
      | brk e5 =>
        rw [eb] at h2
        intro σ5 H5 p5
        obtain ⟨O5, I5, st5⟩ := p5.ex
        exact fin I5 (st5.keep a _ na4 a4).1 (hd4.trans p5.io) ((st24.trans st5).weak fun b hb => by simpa using hb) h2
      | ret m e5 => rw [eb] at h2; exact EndS.lent st24 hd4 h2
      | exn c e5 => rw [eb] at h2; exact EndS.lent st24 hd4 h2
      | stuck => rw [eb] at h2; exact h2.elim
  · rintro σ' H' ⟨O', e', I', a', hd', st', h'⟩
    rw [List.drop_length] at h'
    exact fin I' a' hd' st' h'
theorem ss_forO {s : Nat} {en : Bool} {te : TI} (hp : PassesOwn (model X.prog X.w) X.A X.env X.xe) (hc : X.calm = true) (hi : PI X tg iter te)
    (hte : ∀ σ H R a (ns : List Int), σ[s]? = some (some (.ref a)) → H a = some (.lst (ns.map V.int)) → R (if en = true then EnL X.K a else Itl X.K a) H → te σ H R)
    (hg : SG X (ioS io s) false p tg) (hb : SSs X (ioS io s) b ss)
    (hs : ∀ x, foldedSetIterable iter X.env x = pure x := by intro _; rfl) : SS X io (dForO p en s b) (.For tg iter ss [] pos) := fun W tk => PS.imp (ps_for hp hc hi hg (hb W tk) hs) fun D σ H ⟨Z, O, env, I, h⟩ => by
  unfold dForO at h
  split at h
  case h_2 => exact h.elim
  rename_i ns hns
  have hE := lstInts_some hns
  obtain ⟨a, O1, hsl, ha, I1, nz, st1⟩ := SI.lend I hE
  refine hte σ H _ a ns hsl ha ?_
  cases en with
  | true => exact forO_core I1 nz st1 hsl ha (EnL X.K a) _ liveI_en h
  | false => exact forO_core I1 nz st1 hsl ha (Itl X.K a) _ liveI_list h
/-- for x in name -/
theorem forO_ {s : Nat} {x : Str} {px : Pos} (hp : PassesOwn (model X.prog X.w) X.A X.env X.xe) (hc : X.calm = true) (hg : SG X (ioS io s) false p tg) (hb : SSs X (ioS io s) b ss) (hN : X.N[s]? = some x := by rfl) (hv : Vis X.env.scope x := by first | exact Or.inl rfl | exact Or.inr (Or.inl rfl) | exact Or.inr (Or.inr rfl)) (hd : (x == ("__debug__" : Str)) = false := by decide) (hcd : (x == ("__classdict__" : Str)) = false := by decide)
    (hs : ∀ z, foldedSetIterable (.Name x px) X.env z = pure z := by intro _; rfl) : SS X io (dForO p false s b) (.For tg (.Name x px) ss [] pos) :=
  ss_forO hp hc (pi_list (tg := tg) (pe_var hN hv hd hcd)) (fun σ H R a ns h1 h2 h3 => ⟨.ref a, h1, a, rfl, ⟨_, .inl (.inl h2)⟩, h3⟩) hg hb hs
/-- for .., .. in enumerate(name) -/
theorem forOE_ {s : Nat} {x : Str} {px pe pc tpos : Pos} {elts : List Expr} {kk : Nat} (hp : PassesOwn (model X.prog X.w) X.A X.env X.xe) (hc : X.calm = true) (hm : X.mg "enumerate" = none) (hg : SG X (ioS io s) false p (.Tuple elts kk tpos)) (hb : SSs X (ioS io s) b ss) (hgl : Gl X "enumerate" := by rfl) (hN : X.N[s]? = some x := by rfl) (hv : Vis X.env.scope x := by first | exact Or.inl rfl | exact Or.inr (Or.inl rfl) | exact Or.inr (Or.inr rfl)) (hd : (x == ("__debug__" : Str)) = false := by decide) (hcd : (x == ("__classdict__" : Str)) = false := by decide)
    (hst : starEach [.Name x px] X.env = [(false, eval (.Name x px) X.env)] := by rfl) (hs : ∀ z, foldedSetIterable (.Call (.Name "enumerate" pe) [.Name x px] [] pc) X.env z = pure z := by intro _; rfl) : SS X io (dForO p true s b) (.For (.Tuple elts kk tpos) (.Call (.Name "enumerate" pe) [.Name x px] [] pc) ss [] pos) :=
  ss_forO hp hc (pi_enumL hgl hm (pa_cons (pe_var hN hv hd hcd) pa_nil hst) hst) (fun σ H R a ns h1 h2 h3 => ⟨.ref a, h1, a, _, rfl, .inl (.inl h2), h3⟩) hg hb hs
end
end Q

set_option Elab.async false
set_option linter.all false
set_option maxRecDepth 100000
set_option maxHeartbeats 4000000
/-! e[::-1] of a list, of a tuple. -/
namespace Q
open PySem PySem.Spec PyProof.Rows L2
section
variable {prog : Program} {w : World} {A : Around} {E : Value → Shared → Prop} {s : Shared}
theorem back_applied {slc : Addr} {vst : Value} {num : Nat} {Q : Int × Int × Nat → Shared → Prop} (hsl : s.heap.IsSliceOf slc .none .none vst) (pst : IsPart vst (some (-1))) (hq : Q ((num : Int) - 1, -1, num) s) : wpAny (model prog w) A (Builtin.Slice.sliceApplied (.ref slc) (pure (num : Int))) Q E s := by
  obtain ⟨ob, g1, g2, g3⟩ := id hsl
  unfold Builtin.Slice.sliceApplied Builtin.Slice.sliceFields
  refine wpAny_bind (wpAny_bind (wpAny_field g1 g3 (x := .none) rfl (wpAny_bind (wpAny_field g1 g3 (x := .none) rfl (wpAny_bind (wpAny_field g1 g3 (x := vst) rfl (wpAny_pure ?_)))))))
  refine wpAny_bind (HT.slicePart_ pst ?_)
  show wpAny _ _ (if ((-1 : Int) == 0) = true then _ else _) _ _ s
  rw [if_neg (by decide)]
  refine wpAny_bind (slicePart_none (wpAny_bind (slicePart_none (wpAny_bind (wpAny_pure ?_)))))
  have e1 : Builtin.Slice.sliceAdjust none none (-1) (num : Int) = ((num : Int) - 1, -1) := rfl
  have e2 : Builtin.Slice.slicePlaces ((num : Int) - 1) (-1) (-1) = num := by
    unfold Builtin.Slice.slicePlaces
    have z : ¬ ((-1 : Int) > 0) := by decide
    simp only [z, if_false]
    by_cases hp : (num : Int) - 1 > -1
    · rw [if_pos hp]
      rw [show (- -1 : Int) = 1 by decide, Int.ediv_one]
      omega
    · rw [if_neg hp]
      omega
  show wpAny _ _ (match Builtin.Slice.sliceAdjust none none (-1) (num : Int) with | (a, b) => pure (a, (-1 : Int), Builtin.Slice.slicePlaces a b (-1))) _ _ s
  rw [e1]
  show wpAny _ _ (pure ((num : Int) - 1, (-1 : Int), Builtin.Slice.slicePlaces ((num : Int) - 1) (-1) (-1))) _ _ s
  rw [e2]
  exact wpAny_pure hq
theorem pick_back (xs : Array Value) : ((List.range xs.size).filterMap fun (j : Nat) => xs[(((xs.size : Int) - 1) + (j : Int) * -1).toNat]?).toArray = xs.toList.reverse.toArray := by
  congr 1
  have e1 : (List.range xs.size).filterMap (fun (j : Nat) => xs[(((xs.size : Int) - 1) + (j : Int) * -1).toNat]?) = ((List.range xs.size).map fun k => xs.size - 1 - k).filterMap (xs[·]?) := by
    rw [List.filterMap_map]
    have key : ∀ l : List Nat, (∀ j ∈ l, j < xs.size) → l.filterMap (fun (j : Nat) => xs[(((xs.size : Int) - 1) + (j : Int) * -1).toNat]?) = l.filterMap ((xs[·]?) ∘ fun k => xs.size - 1 - k) := by
      intro l
      induction l with
      | nil => intro _; rfl
      | cons j l ih =>
        intro h
        have hj := h j List.mem_cons_self
        have e : ((((xs.size : Int) - 1) + (j : Int) * -1).toNat) = xs.size - 1 - j := by omega
        rw [List.filterMap_cons, List.filterMap_cons, ih fun x hx => h x (List.mem_cons_of_mem _ hx), e]
        rfl
    exact key _ fun j hj => List.mem_range.mp hj
  rw [e1, PySem.W.krv_range, List.filterMap_reverse, PySem.W.krv_all]
theorem tuple_back {tp slc : Addr} {its : Array Value} {vst : Value} {Q : Value → Shared → Prop} (hTup : IsTup s.heap tp its) (hsl : s.heap.IsSliceOf slc .none .none vst) (pst : IsPart vst (some (-1)))
    (hq : Q (.ref s.heap.objs.size) { s with heap := s.heap.push { cls := .type "tuple", data := .seq its.toList.reverse.toArray } }) (hlen : its.size ≤ sizeLine) : wpAny (model prog w) A (getItem (.ref tp) (.ref slc)) Q E s := by
  have fits : sizeOk (.seq its.toList.reverse.toArray) := by
    show its.toList.reverse.toArray.size ≤ sizeLine
    rw [List.size_toArray, List.length_reverse, Array.length_toList]
    exact hlen
  obtain ⟨ob, g1, g2, g3⟩ := id hsl
  have tySl : s.TypeIs (.ref slc) "slice" := ⟨ob, g1, g2⟩
  unfold getItem
  try with_reducible refine wpAny_holding ?_
  first | refine wpAny_bind (wpAny_pure ?_) | skip
  refine wpAny_bind (wpAny_sequenceKey hTup.typeIs (by decide) ?_)
  refine wpAny_bind (wpAny_callSpecial?_slot (name := Str.ofString "__getitem__") hTup.typeIs PyProof.Rows.slot_tuple_getitem (wpAny_call_entry PyProof.Rows.slot_tuple_getitem hTup.typeIs entry_tuple_getitem ?_ (args_tuple_getitem _ _)))
  show wpAny _ _ (Builtin.Tuple.tupleItemsOf (.ref tp) >>= _) _ _ s
  refine wpAny_bind (tupleItemsOf_ hTup ?_)
  refine wpAny_bind (wpAny_typeOf tySl ?_)
  rw [if_pos (by decide)]
  refine wpAny_bind (back_applied hsl pst ?_)
  have nope : ¬ ((((its.size : Int) - 1) == 0 && (-1 : Int) == 1 && its.size == its.size) = true) := by
    intro q
    rw [Bool.and_eq_true, Bool.and_eq_true] at q
    exact absurd q.1.2 (by decide)
  show wpAny _ _ (if (((its.size : Int) - 1) == 0 && (-1 : Int) == 1 && its.size == its.size) = true then _ else _) _ _ s
  rw [if_neg nope, pick_back]
  first
    | exact wpAny_bind (m := Builtin.Tuple.tupleExact _) (wpAny_newObj_type (wpAny_pure ⟨_, rfl, wpAny_pure hq⟩) fits)
    | exact wpAny_bind (m := Builtin.Tuple.tupleExact _) (wpAny_newObj_type (wpAny_bind (wpAny_pure (wpAny_pure ⟨_, rfl, wpAny_pure hq⟩))) fits)
    | exact wpAny_bind (wpAny_bind (m := Builtin.Tuple.tupleExact _) (wpAny_newObj_type (wpAny_pure (wpAny_pure ⟨_, rfl, wpAny_pure hq⟩)) fits))
    | exact wpAny_bind (wpAny_bind (m := Builtin.Tuple.tupleExact _) (wpAny_newObj_type (wpAny_pure ⟨_, rfl, wpAny_pure hq⟩) fits))
end
section
variable {X : Cx}
def tRevA (K : PySem.W.Frag) (te : TE) : TE := fun σ H Q => te σ H fun x H1 => ∃ a xs, x = .ref a ∧ ((SqL K H1 a xs ∧ ∀ p, H1 p = none → Q (.ref p) (upd H1 p (.lst xs.reverse))) ∨ (SqT K H1 a xs ∧ NewT H1 xs.reverse Q))
theorem pe_revA {e : Expr} {te : TE} {k : Nat} {q1 q2 q3 qq : Pos} (hte : PE X e te) : PE X (.Subscript e (.Slice none none (some (.UnaryOp .USub (.Constant (.int 1) k q1) q2)) q3) qq) (tRevA X.K te) := by
  refine ⟨fun pins s σ H Q I0 h0 => ?_⟩
  refine Subscript_ (thn (hte.run pins s σ H _ I0 h0) fun u s1 ⟨x, Ha, Ia, ra, qa⟩ => ?_)
  obtain ⟨a, xs, ex, hx⟩ := qa
  subst ex
  cases ra
  have hst : PO X (some (.UnaryOp .USub (.Constant (.int 1) k q1) q2)) (tPart (tUn (rU fun i => .int (-i)) (tC (.int 1)))) := po_some (pe_un un_neg pe_int)
  refine wpAny_Slice (thn (po_none.run pins s1 σ Ha (fun o Hb => o = none ∧ Hb = Ha) Ia ⟨rfl, rfl⟩) fun vl s2 ⟨l, Hb, Ib, pl, el, eb⟩ => ?_)
  subst el eb
  refine thn (po_none.run pins s2 σ Hb (fun o Hc => o = none ∧ Hc = Hb) Ib ⟨rfl, rfl⟩) fun vu s3 ⟨l2, Hc, Ic, pu, eu, ec⟩ => ?_
  subst eu ec
  refine thn (hst.run pins s3 σ Hc (fun o Hd => o = some (-1) ∧ Hd = Hc) Ic ⟨1, rfl, -1, rfl, rfl, rfl⟩) fun vst s4 ⟨o, Hd, Id, ps, eo, ed⟩ => ?_
  subst eo ed
  cases pl
  cases pu
  have Ie : Inv X pins σ Hd { s4 with heap := s4.heap.push { cls := .type "slice", data := .fields #[.none, .none, vst] } } := Id.kept (t' := s4.toks) fun b ob q => Heap.get?_push_of_some _ q
  show wpAny (model X.prog X.w) X.A (subscriptTail e (.Slice none none (some (.UnaryOp .USub (.Constant (.int 1) k q1) q2)) q3) (.ref a) (.ref s4.heap.objs.size)) (EP X pins σ Q) X.xe { s4 with heap := s4.heap.push { cls := .type "slice", data := .fields #[.none, .none, vst] } }
  rcases hx with ⟨hx, q⟩ | ⟨hx, q⟩
  · obtain ⟨its, r, ht, hz⟩ := Ie.list hx
    have hlen := r.length
    refine tail_any (ops := [.ref a, .ref s4.heap.objs.size]) ht.isList.typeIs (PySem.slot_list_getitem.lookup) ?_ (by with_unfolding_all rfl)
    refine wpAny_getItem_list_slice ht.isList (Heap.IsSliceOf.new _ .none .none vst) .none .none ps (by decide) ?_ (by rw [List.size_toArray]; omega)
    rw [PySem.W.krv_pick]
    refine ⟨.ref _, _, Ie.laid (t' := s4.toks) (o := .lst xs.reverse) (fun b ob q => Heap.get?_push_of_some _ q) (Nat.le_refl _) ?_, rfl, q _ (Ie.hok.fresh (Nat.le_refl _))⟩
    exact ⟨by rw [List.length_reverse]; exact hz, _, 0, r.reverse, Heap.get?_push_size _ rfl⟩
  · obtain ⟨its, r, ht, hz⟩ := Ie.tuple hx
    have hlen := r.length
    refine tail_any (ops := [.ref a, .ref s4.heap.objs.size]) ht.typeIs (PyProof.Rows.slot_tuple_getitem.lookup) ?_ (by with_unfolding_all rfl)
    refine tuple_back ht (Heap.IsSliceOf.new _ .none .none vst) ps ?_ (by rw [List.size_toArray]; omega)
    have ok := Ie.laid (t' := s4.toks) (fun b ob q => Heap.get?_push_of_some _ q) (Nat.le_refl _) (tf_ok r.reverse (by rw [List.length_reverse]; exact hz))
    refine ⟨.ref _, _, ok, rfl, q _ _ (Ie.hok.fresh (Nat.le_refl _)) rfl⟩
def kRev : List Val → Option Val
  | [.own (.fz (.tuple ds))] => some (.own (.fz (.tuple ds.reverse)))
  | [x] => (lv x).map fun ds => .own (.lst (ds.reverse.map .fz))
  | _ => none
theorem se_rev {f : Ev → Res} {e : Expr} {k : Nat} {q1 q2 q3 qq : Pos} (he : SE X f e) : SE X (dF Ql.n kRev [f]) (.Subscript e (.Slice none none (some (.UnaryOp .USub (.Constant (.int 1) k q1) q2)) q3) qq) := fun W tk =>
  PE.imp (pe_revA (he W tk)) fun σ H Q h => tu_one (tul_F h fun Z O env env' q xs y I hk hlen vs H' pl kk v ev => by
    subst ev
    obtain ⟨O', F, pa⟩ := pl.ex
    have rr := pa.2.1
    unfold kRev at hk
    split at hk
    · rename_i ds
      cases hk
      cases rr.fz1 with
      | tup hq rs => exact ⟨_, _, rfl, .inr ⟨hq.t, fun p o hn ho => kk _ _ (pa.newT rs.reverse hn ho)⟩⟩
    · rename_i x _
      obtain ⟨ds, e, ey⟩ := Option.map_eq_some_iff.mp hk
      subst ey
      obtain ⟨a, ws, rfl, hr, rs⟩ := rr.lv e
      exact ⟨a, ws, rfl, .inl ⟨.inl hr, fun p hn => kk _ _ (pa.newL rs.reverse.tms (List.nil_sublist _) hn)⟩⟩
    · cases hk)
end
theorem yq_revT {f : Ev → Res} {env : Ev} {ds : List PyData} (h : YQ f env (.own (.fz (.tuple ds)))) : YQ (dF Ql.n kRev [f]) env (.own (.fz (.tuple ds.reverse))) := yq_Fn (ys_cons h ys_nil) rfl
theorem PostL.fz2 {K : PySem.W.Frag} {Z : Addr → Prop} {O : List Addr} {env env1 : Ev} {σ : L2.St} {H H' : Hp} {vs : List V} {d e : PyData} {q : Ql} (p : PostL K Z O env σ H vs H' [.own (.fz d), .own (.fz e)] env1 q) :
    ∃ O' v w, vs = [v, w] ∧ SI K Z O' env1 σ H' ∧ RF K H' (fun a => ¬ Z a ∧ a ∉ O') v d ∧ RF K H' (fun a => ¬ Z a ∧ a ∉ O') w e ∧ Step O H O' [] H' ∧ (q ≠ .l → Quiet H H') := by
  obtain ⟨O', F, I, r, nd, nz, st, qu, _⟩ := p.ex
  cases r with
  | own h hr =>
    cases hr with
    | own h2 hr =>
      cases hr
      obtain ⟨h, rfl⟩ := h.fzD
      obtain ⟨h2, rfl⟩ := h2.fzD
      rw [List.append_nil, List.append_nil, Zp_nil] at I
      exact ⟨O', _, _, rfl, I, h.imp fun a g => ⟨g.1, g.2.1⟩, h2.imp fun a g => ⟨g.1, g.2.1⟩, st, qu⟩
end Q

set_option Elab.async false
set_option linter.all false
set_option maxRecDepth 100000
set_option maxHeartbeats 4000000
/-! Dicts with ints and texts as keys, frozen data as values, owned by a name. -/
namespace Q
open PySem PySem.Spec PyProof.Rows L2
/-! ### tables -/
def dicM (t : List (Key × PyData)) : M := .dK (t.map (·.1)) (t.map fun p => .fz p.2)
def dicOf : Option (Option M) → Option (List (Key × PyData))
  | some (some (.dK ks ms)) => (leaves ms).map fun ds => ks.zip ds
  | _ => none
def keyD : PyData → Option Key
  | .int i => some (.inl i)
  | .str x => some (.inr x)
  | _ => none
def putD (t : List (Key × PyData)) (k : Key) (d : PyData) : List (Key × PyData) :=
  if (t.any fun p => decide (p.1 = k)) = true then t.map (fun p => if p.1 = k then (p.1, d) else p) else t ++ [(k, d)]
def findD (t : List (Key × PyData)) (k : Key) : Option PyData := (t.find? fun p => decide (p.1 = k)).map (·.2)
section
variable {K : PySem.W.Frag} {H H' : Hp} {G G' : Addr → Prop}
/-- a table of values stands for a table of data -/
inductive RT (K : PySem.W.Frag) (H : Hp) (G : Addr → Prop) : List (Key × V) → List (Key × PyData) → Prop
  | nil : RT K H G [] []
  | cons {k : Key} {v : V} {d : PyData} {kvs : List (Key × V)} {t : List (Key × PyData)} : RF K H G v d → RT K H G kvs t → RT K H G ((k, v) :: kvs) ((k, d) :: t)
theorem RT.len : ∀ {kvs : List (Key × V)} {t : List (Key × PyData)}, RT K H G kvs t → kvs.length = t.length
  | _, _, .nil => rfl
  | _, _, .cons _ r => by rw [List.length_cons, List.length_cons, RT.len r]
theorem RT.rfs : ∀ {kvs : List (Key × V)} {t : List (Key × PyData)}, RT K H G kvs t → RFs K H G (kvs.map (·.2)) (t.map (·.2)) ∧ kvs.map (·.1) = t.map (·.1)
  | _, _, .nil => ⟨.nil, rfl⟩
  | _, _, .cons h r => ⟨.cons h (RT.rfs r).1, by rw [List.map_cons, List.map_cons, (RT.rfs r).2]⟩
theorem RT.of : ∀ {kvs : List (Key × V)} {ds : List PyData}, RFs K H G (kvs.map (·.2)) ds → RT K H G kvs ((kvs.map (·.1)).zip ds)
  | [], _, r => by
    rw [List.map_nil] at r ⊢
    cases r
    exact .nil
  | p :: kvs, _, r => by
    rw [List.map_cons] at r
    cases r with
    | cons h r => exact .cons h (RT.of r)
theorem RT.any : ∀ {kvs : List (Key × V)} {t : List (Key × PyData)} {k : Key}, RT K H G kvs t → (kvs.any fun p => decide (p.1 = k)) = (t.any fun p => decide (p.1 = k))
  | _, _, _, .nil => rfl
  | _, _, _, .cons _ r => by rw [List.any_cons, List.any_cons, RT.any r]
theorem RT.over : ∀ {kvs : List (Key × V)} {t : List (Key × PyData)} {k : Key} {v : V} {d : PyData}, RT K H G kvs t → RF K H G v d → RT K H G (kvs.map fun p => if p.1 = k then (p.1, v) else p) (t.map fun p => if p.1 = k then (p.1, d) else p)
  | _, _, _, _, _, .nil, _ => .nil
  | _, _, k, _, _, .cons (k := k') h r, q => by
    rw [List.map_cons, List.map_cons]
    by_cases e : k' = k
    · simp only [e, if_true]
      exact .cons q (RT.over r q)
    · simp only [e, if_false]
      exact .cons h (RT.over r q)
theorem RT.snoc : ∀ {kvs : List (Key × V)} {t : List (Key × PyData)} {k : Key} {v : V} {d : PyData}, RT K H G kvs t → RF K H G v d → RT K H G (kvs ++ [(k, v)]) (t ++ [(k, d)])
  | _, _, _, _, _, .nil, q => .cons q .nil
  | _, _, _, _, _, .cons h r, q => .cons h (RT.snoc r q)
theorem RT.put {kvs : List (Key × V)} {t : List (Key × PyData)} {k : Key} {v : V} {d : PyData} (r : RT K H G kvs t) (q : RF K H G v d) : RT K H G (putK kvs k v) (putD t k d) := by
  unfold putK putD
  rw [r.any]
  split
  · exact r.over q
  · exact r.snoc q
theorem RT.find : ∀ {kvs : List (Key × V)} {t : List (Key × PyData)} {k : Key}, RT K H G kvs t → (findD t k = none ∧ valV kvs k = none) ∨ ∃ v d, findD t k = some d ∧ valV kvs k = some v ∧ RF K H G v d
  | _, _, _, .nil => .inl ⟨rfl, rfl⟩
  | _, _, k, .cons (k := k') (v := v) (d := d) h r => by
    by_cases e : k' = k
    · exact .inr ⟨v, d, by simp [findD, e], by simp [valV, e], h⟩
    · have e1 : ∀ t, findD ((k', d) :: t) k = findD t k := fun t => by simp [findD, e]
      have e2 : ∀ kvs, valV ((k', v) :: kvs) k = valV kvs k := fun t => by simp [valV, e]
      rw [e1, e2]
      exact RT.find r
theorem RT.imp (i : ∀ a, G a → G' a) : ∀ {kvs : List (Key × V)} {t : List (Key × PyData)}, RT K H G kvs t → RT K H G' kvs t
  | _, _, .nil => .nil
  | _, _, .cons h r => .cons (h.imp i) (RT.imp i r)
theorem RT.step {O : List Addr} (om : OM H O) (go : ∀ a, G a → a ∉ O) (fr : ∀ a o, a ∉ O → H a = some o → H' a = some o) (gg : ∀ a o, G a → H a = some o → G' a) : ∀ {kvs : List (Key × V)} {t : List (Key × PyData)}, RT K H G kvs t → RT K H' G' kvs t
  | _, _, .nil => .nil
  | _, _, .cons h r => .cons (h.step om go fr gg) (RT.step om go fr gg r)
theorem fzs_map (t : List (Key × PyData)) : (t.map fun p => M.fz p.2) = (t.map (·.2)).map M.fz := by rw [List.map_map]; rfl
theorem RT.rm {kvs : List (Key × V)} {t : List (Key × PyData)} {a : Addr} (r : RT K H G kvs t) (h : H a = some (.dK kvs)) : RM K H G (.ref a) (dicM t) [a] := by
  obtain ⟨r1, e⟩ := r.rfs
  unfold dicM
  rw [← e, fzs_map]
  exact .dK h r1.tms
theorem dicOf_some {x : Option (Option M)} {t : List (Key × PyData)} (h : dicOf x = some t) : ∃ ks ms ds, x = some (some (.dK ks ms)) ∧ leaves ms = some ds ∧ t = ks.zip ds := by
  unfold dicOf at h
  split at h
  · rename_i ks ms
    obtain ⟨ds, h1, h2⟩ := Option.map_eq_some_iff.mp h
    exact ⟨ks, ms, ds, rfl, h1, h2.symm⟩
  · cases h
theorem SI.dic {Z : Addr → Prop} {O : List Addr} {env : Ev} {σ : L2.St} {s : Nat} {t : List (Key × PyData)} (I : SI K Z O env σ H) (h : dicOf env[s]? = some t) : ∃ a kvs, σ[s]? = some (some (.ref a)) ∧ H a = some (.dK kvs) ∧ RT K H (fun a => ¬ Z a ∧ a ∉ O) kvs t := by
  obtain ⟨ks, ms, ds, e, hl, et⟩ := dicOf_some h
  obtain ⟨v, F, h1, r, _⟩ := I.get e
  cases r with
  | dK ha rms =>
    obtain ⟨rf, _⟩ := rms.leaf hl
    rw [et]
    exact ⟨_, _, h1, ha, RT.of rf⟩
/-- a dict that a name owns is written -/
theorem SI.putK {Z : Addr → Prop} {O : List Addr} {env : Ev} {σ : L2.St} {s : Nat} {t t' : List (Key × PyData)} {a : Addr} {kvs' : List (Key × V)} (I : SI K Z O env σ H) (h : dicOf env[s]? = some t) (hs : σ[s]? = some (some (.ref a))) (r' : RT K H (fun a => ¬ Z a ∧ a ∉ O) kvs' t') :
    SI K Z O (env.set s (some (dicM t'))) σ (upd H a (.dK kvs')) ∧ Step O H O [] (upd H a (.dK kvs')) := by
  obtain ⟨ks, ms, ds, e, hl, et⟩ := dicOf_some h
  obtain ⟨Fs, sl, rfl⟩ := I.sl
  obtain ⟨v, Fv, h1, h2, h3⟩ := sl.get e
  rw [hs] at h1
  cases h1
  have hF : Fv = [a] := by
    cases h3 with
    | dK ha rms => rw [(rms.leaf hl).2]
  have hF2 : Fs.set s [a] = Fs := by
    apply List.ext_getElem?
    intro j
    by_cases q : s = j
    · subst q
      have hlt := (List.getElem?_eq_some_iff.mp h2).1
      rw [List.getElem?_set_self hlt, h2, hF]
    · rw [List.getElem?_set_ne q]
  have aO : a ∈ Fs.flatten := mem_flat_at h2 (by rw [hF]; exact List.mem_cons_self)
  have om : OM H [a] := fun b hb => I.om b (by rw [List.mem_singleton.mp hb]; exact aO)
  have fr : ∀ b o, b ∉ [a] → H b = some o → upd H a (.dK kvs') b = some o := fun b o n e => by
    rw [upd_ne (fun z => n (by rw [z]; exact List.mem_cons_self))]; exact e
  have rn : RT K (upd H a (.dK kvs')) (fun b => ¬ Z b ∧ b ∉ Fs.flatten) kvs' t' := r'.step om (fun b g hb => g.2 (by rw [List.mem_singleton.mp hb]; exact aO)) fr fun b _ g _ => g
  refine ⟨⟨⟨Fs, ?_, rfl⟩, I.nd, I.nz, fun b z => ?_⟩, ⟨fun b o n e => ?_⟩⟩
  · have z := Slots.stepL (O := [a]) (H' := upd H a (.dK kvs')) (G' := fun b => ¬ Z b ∧ b ∉ Fs.flatten) (m := dicM t') sl om (fun b g hb => g.2 (by rw [List.mem_singleton.mp hb]; exact aO)) (fun j Fj hj ej b hb hc => by
      rw [List.mem_singleton.mp hc] at hb
      exact flat_apart I.nd h2 ej (Ne.symm hj) a (by rw [hF]; exact List.mem_cons_self) hb) fr (fun b g => g) hs (rn.rm upd_same)
    rw [hF2] at z
    exact z
  · by_cases q : b = a
    · exact ⟨_, by rw [q]; exact upd_same⟩
    · obtain ⟨o, e⟩ := I.zt b z
      exact ⟨o, by rw [upd_ne q]; exact e⟩
  · have q : b ≠ a := fun z => n (by rw [z]; exact aO)
    exact ⟨by rw [upd_ne q]; exact e, n, fun z => nomatch z⟩
end
/-! ### {} -/
theorem new_dic {K : PySem.W.Frag} {Z : Addr → Prop} {O : List Addr} {env : Ev} {σ : L2.St} {H : Hp} {p : Addr} (I : SI K Z O env σ H) (hn : H p = none) : Post K Z O env σ H (.ref p) (upd H p (.dK [])) (.own (dicM [])) env .q := by
  have pl := PostL.newL (PostL.nil I) (p := p) rfl hn
  obtain ⟨O', F, I', r, nd, nz, st, qu, pp⟩ := pl.ex
  have k := upd_keep (o := .dK []) hn
  have nO : p ∉ O := fun z => by
    obtain ⟨o, e, _⟩ := I.owd p z
    rw [hn] at e; cases e
  have nZ : ¬ Z p := fun z => by
    obtain ⟨o, e⟩ := I.zt p z
    rw [hn] at e; cases e
  refine ⟨⟨O, [p], ?_, by simpa using RVs.own (F := [p]) (F' := []) (RT.rm (K := K) (H := upd H p (.dK [])) (G := fun a => ¬ Z a ∧ a ∉ O ∧ a ∉ [p]) .nil upd_same) .nil, List.nodup_cons.mpr ⟨(fun z => nomatch z), List.nodup_nil⟩, fun a ha => by rw [List.mem_singleton.mp ha]; exact nZ, ⟨fun a o n e => ⟨k a o e, n, fun z => ?_⟩⟩, fun _ => k, (fun z => by cases z)⟩⟩
  · obtain ⟨Fs, s, e⟩ := I.sl
    have key : ∀ {env : Ev} {σ : L2.St} {Fs : List (List Addr)}, Slots K H (fun a => ¬ Z a ∧ a ∉ O) env σ Fs → Slots K (upd H p (.dK [])) (fun a => ¬ Zp Z [p] a ∧ a ∉ O) env σ Fs := by
      intro env σ Fs s
      induction s with
      | nil => exact .nil
      | non _ ih => exact .non ih
      | som h _ ih =>
        refine .som (h.step (O := []) (fun _ z => nomatch z) (fun _ _ z => nomatch z) (fun _ _ z => nomatch z) (fun a o _ e => k a o e) fun a o g e => ⟨fun z => ?_, g.2⟩) ih
        rcases z with z | z
        · exact g.1 z
        · rw [List.mem_singleton.mp z, hn] at e; cases e
    refine ⟨⟨Fs, key s, e⟩, I.nd, fun a ha z => ?_, fun a z => ?_⟩
    · rcases z with z | z
      · exact I.nz a ha z
      · exact nO (List.mem_singleton.mp z ▸ ha)
    · rcases z with z | z
      · exact (I.zt a z).imp fun o q => k a o q
      · exact ⟨_, by rw [List.mem_singleton.mp z]; exact upd_same⟩
  · rw [List.mem_singleton.mp z, hn] at e; cases e
def dDic0 : Ev → Res := fun env => .ok (.own (dicM [])) env .q
section
variable {X : Cx} {io : Nat → Bool} {f g : Ev → Res} {e i a : Expr} {pos px tpos : Pos}
theorem se_dic0 : SE X dDic0 (.Dict [] [] pos) := fun W tk => PE.imp pe_dnewK fun σ H Q ⟨Z, O, env, I, h⟩ p hn => h _ _ (new_dic I hn)
/-! ### x[k] = v -/
def dPutK (s : Nat) (fi f : Ev → Res) : Ev → Out := fun env => match dFr f env with
  | .ok (.own (.fz d)) e1 _ => if held1 e1 s = true then (match dFr fi e1 with
    | .ok (.own (.fz kd)) e2 _ => (match keyD kd, dicOf e2[s]? with
      | some k, some t => if t.length < SZ then .nx (e2.set s (some (dicM (putD t k d)))) else .stuck
      | _, _ => .stuck)
    | .ok _ _ _ => .stuck
    | .exn c e => .exn c e
    | .stuck => .stuck) else .stuck
  | .ok _ _ _ => .stuck
  | .exn c e => .exn c e
  | .stuck => .stuck
theorem keyD_V {K : PySem.W.Frag} {H : Hp} {G : Addr → Prop} {v : V} {d : PyData} {k : Key} (r : RF K H G v d) (h : keyD d = some k) : v = kV k := by
  cases r <;> first | (cases h; rfl) | cases h
theorem ss_putK {s : Nat} {x : Str} (hu : X.A.units + 1 < cLine) (hN : X.N[s]? = some x) (hv : Vis X.env.scope x) (hi : SE X g i) (he : SE X f e) (hs : swapsWith e (some (.Subscript (.Name x px) i tpos)) pos.line X.env = pure false) (hd : (x == ("__debug__" : Str)) = false := by decide) (hcd : (x == ("__classdict__" : Str)) = false := by decide) :
    SS X io (dPutK s g f) (.Assign [.Subscript (.Name x px) i tpos] e pos) := fun W tk => PS.imp (ps_dput hu (pe_var hN hv hd hcd) (se_fr hi W tk) (se_fr he W tk) hs) fun D σ H ⟨Z, O, env, I, h⟩ => by
  refine ⟨Z, O, env, I, ?_⟩
  unfold dPutK at h
  cases ef : dFr f env with
  | stuck => rw [ef] at h; exact h.elim
  | exn c e1 => rw [ef] at h; exact EndS.exn h
  | ok y e1 q =>
    rw [ef] at h
    split at h
    case h_2 => exact h.elim
    case h_3 => contradiction
    case h_4 => contradiction
    rename_i d e1' q1' eq1
    cases eq1
    intro v H1 p1
    obtain ⟨O1, I1, r1, st1, _⟩ := p1.fz1
    split at h
    case isFalse => exact h.elim
    rename_i hh
    obtain ⟨w, hw⟩ := I1.val hh
    refine ⟨w, hw, Z, O1, e1, I1, ?_⟩
    cases eg : dFr g e1 with
    | stuck => rw [eg] at h; exact h.elim
    | exn c e2 => rw [eg] at h; exact fun cls d H' p => EndS.exn (h.after st1 Held.refl) cls d H' p
    | ok y2 e2 q2 =>
      rw [eg] at h
      split at h
      case h_2 => exact h.elim
      case h_3 => contradiction
      case h_4 => contradiction
      rename_i kd e2' q2' eq2
      cases eq2
      intro u H2 p2
      obtain ⟨O2, I2, r2, st2, _⟩ := p2.fz1
      split at h
      case h_2 => exact h.elim
      rename_i k t ek et
      split at h
      case isFalse => exact h.elim
      rename_i hl
      obtain ⟨a, kvs, ha, hH, rt⟩ := I2.dic et
      rw [hw] at ha
      cases ha
      have r1' : RF X.K H2 (fun a => ¬ Z a ∧ a ∉ O2) v d := r1.step I1.om (fun a g => g.2) (fun a o n e => (st2.keep a o n e).1) fun a o g e => ⟨g.1, (st2.keep a o g.2 e).2.1⟩
      obtain ⟨I3, st3⟩ := I2.putK et hw (rt.put (k := k) r1')
      have eu := keyD_V r2 ek
      subst eu
      refine ⟨a, _, rfl, DPut.k hH (by rw [rt.len, sizeLine_eq]; exact hl), ?_⟩
      exact h _ _ ⟨⟨O2, I3, (st1.tr0 st2).tr0 st3⟩, Held.refl⟩
/-! ### x.get(k, y) -/
def get2R (s : Nat) : ResL → Res
  | .ok [.own (.fz kd), .own (.fz yd)] e2 q => (match keyD kd, dicOf e2[s]? with
    | some k, some t => .ok (.own (.fz ((findD t k).getD yd))) e2 q.n
    | _, _ => .stuck)
  | .ok _ _ _ => .stuck
  | .exn c e => .exn c e
  | .stuck => .stuck
def dGet2 (s : Nat) (f g : Ev → Res) : Ev → Res := fun env => match dicOf env[s]? with
  | none => .stuck
  | some _ => get2R s (evs [dFr f, dFr g] env)
theorem get2R_ok {s : Nat} {xs : List Val} {e e' : Ev} {q q' : Ql} {x : Val} (h : get2R s (.ok xs e q) = .ok x e' q') : ∃ kd yd k t, xs = [.own (.fz kd), .own (.fz yd)] ∧ keyD kd = some k ∧ dicOf e[s]? = some t ∧ x = .own (.fz ((findD t k).getD yd)) ∧ e' = e ∧ q' = q.n := by
  unfold get2R at h
  split at h
  · rename_i kd yd e2 q2 eq
    cases eq
    split at h
    · rename_i k t ek et
      cases h
      exact ⟨kd, yd, k, t, rfl, ek, et, rfl, rfl, rfl⟩
    · cases h
  · cases h
  · cases h
  · cases h
theorem get2R_no {s : Nat} {xs : List Val} {e e' : Ev} {q : Ql} {c : Exn} (h : get2R s (.ok xs e q) = .exn c e') : False := by
  unfold get2R at h
  split at h
  · rename_i kd yd e2 q2 eq
    cases eq
    split at h <;> cases h
  · cases h
  · contradiction
  · cases h
theorem se_get2 {s : Nat} {x : Str} {e2 : Expr} {apos cpos : Pos} (hu : X.A.units + 1 < cLine) (hN : X.N[s]? = some x) (hv : Vis X.env.scope x) (hf : SE X f e) (hg : SE X g e2) (hd : (x == ("__debug__" : Str)) = false := by decide) (hcd : (x == ("__classdict__" : Str)) = false := by decide)
    (m : M2 X (.Name x px) "get" apos e e2 cpos := by exact ⟨rfl, rfl, rfl, rfl⟩) (hs : starEach [e, e2] X.env = (false, eval e X.env) :: starEach [e2] X.env := by rfl) (hs2 : starEach [e2] X.env = (false, eval e2 X.env) :: starEach [] X.env := by rfl) :
    SE X (dGet2 s f g) (.Call (.Attribute (.Name x px) "get" apos) [e, e2] [] cpos) := fun W tk => PE.imp (pe_dget2 hu (pe_var hN hv hd hcd) (se_fr hf W tk) (se_fr hg W tk) m) fun σ H Q ⟨Z, O, env, I, h⟩ => by
  unfold dGet2 at h
  cases et0 : dicOf env[s]? with
  | none => simp only [et0] at h
  | some t0 =>
  simp only [et0] at h
  obtain ⟨a, kvs0, ha, hH0, _⟩ := I.dic et0
  refine ⟨.ref a, ha, a, rfl, .inl ⟨kvs0, .inl hH0⟩, ?_⟩
  refine tu_two (R := fun v w H3 => ∃ o, DGet H3 a v o ∧ Q (o.getD w) H3) ⟨Z, O, env, I, ?_⟩
  cases ev : evs [dFr f, dFr g] env with
  | stuck => rw [ev] at h; exact h
  | exn c e1 => rw [ev] at h; exact h
  | ok xs e3 q =>
    rw [ev] at h
    cases er : get2R s (.ok xs e3 q) with
    | stuck => rw [er] at h; exact h.elim
    | exn c e1 => exact (get2R_no er).elim
    | ok x e4 q4 =>
    rw [er] at h
    obtain ⟨kd, yd, k, t, rfl, ek, et, rfl, rfl, rfl⟩ := get2R_ok er
    intro vs H2 pl v w evw
    subst evw
    obtain ⟨O', v', w', ew, I', r1, r2, st, qu⟩ := pl.fz2
    injection ew with e1 ew
    injection ew with e2 _
    subst e1 e2
    obtain ⟨a', kvs, ha', hH, rt⟩ := I'.dic et
    rw [ha] at ha'
    cases ha'
    have eu := keyD_V r1 ek
    subst eu
    have fin : ∀ {u : V} {d : PyData}, RF X.K H2 (fun a => ¬ Z a ∧ a ∉ O') u d → Post X.K Z O env σ H u H2 (.own (.fz d)) e4 q.n := fun {u d} r => ⟨⟨O', [], by rw [Zp_nil]; exact I', RVs.own (F := []) (F' := []) (RM.fz (r.imp fun a g => ⟨g.1, g.2, (fun z => nomatch z)⟩)) .nil, List.nodup_nil, (fun _ z => nomatch z), st, (fun z => qu (qn_l z)), fun z => (qn_p z).elim⟩⟩
    refine ⟨valV kvs k, DGet.k hH, ?_⟩
    rcases rt.find (k := k) with ⟨f1, f2⟩ | ⟨u, d, f1, f2, ru⟩
    · rw [f2]
      rw [f1] at h
      exact h _ _ (fin r2)
    · rw [f2]
      rw [f1] at h
      exact h _ _ (fin ru)
theorem putk_ (s : Nat) {x : Str} (hu : X.A.units + 65 < cLine) (hi : SE X g i) (he : SE X f e) (hN : X.N[s]? = some x := by rfl) (hv : Vis X.env.scope x := by first | exact Or.inl rfl | exact Or.inr (Or.inl rfl) | exact Or.inr (Or.inr rfl)) (hs : swapsWith e (some (.Subscript (.Name x px) i tpos)) pos.line X.env = pure false := by rfl) (hd : (x == ("__debug__" : Str)) = false := by decide) (hcd : (x == ("__classdict__" : Str)) = false := by decide) :
    SS X io (dPutK s g f) (.Assign [.Subscript (.Name x px) i tpos] e pos) := ss_putK (by omega) hN hv hi he hs hd hcd
theorem get2_ (s : Nat) {x : Str} {e2 : Expr} {apos cpos : Pos} (hu : X.A.units + 65 < cLine) (hf : SE X f e) (hg : SE X g e2) (hN : X.N[s]? = some x := by rfl) (hv : Vis X.env.scope x := by first | exact Or.inl rfl | exact Or.inr (Or.inl rfl) | exact Or.inr (Or.inr rfl)) (hd : (x == ("__debug__" : Str)) = false := by decide) (hcd : (x == ("__classdict__" : Str)) = false := by decide)
    (m : M2 X (.Name x px) "get" apos e e2 cpos := by exact ⟨rfl, rfl, rfl, rfl⟩) (hs : starEach [e, e2] X.env = (false, eval e X.env) :: starEach [e2] X.env := by rfl) (hs2 : starEach [e2] X.env = (false, eval e2 X.env) :: starEach [] X.env := by rfl) :
    SE X (dGet2 s f g) (.Call (.Attribute (.Name x px) "get" apos) [e, e2] [] cpos) := se_get2 (by omega) hN hv hf hg hd hcd m hs hs2
end
end Q

set_option Elab.async false
set_option linter.all false
set_option maxRecDepth 100000
set_option maxHeartbeats 4000000
/-! a, b = (c, d) for names of any kind. -/
namespace Q
open PySem PySem.Spec PyProof.Rows L2
theorem RM.unTup {K : PySem.W.Frag} {H : Hp} {G : Addr → Prop} {v : V} {ms : List M} {F : List Addr} (r : RM K H G v (mkTup ms) F) : ∃ a xs, v = .ref a ∧ SqN K H a xs ∧ RMs K H G xs ms F := by
  unfold mkTup at r
  cases e : leaves ms with
  | none =>
    rw [e] at r
    cases r with
    | tup h rs => exact ⟨_, _, rfl, h, rs⟩
  | some ds =>
    rw [e] at r
    obtain ⟨r1, rfl⟩ := r.fzD
    cases r1 with
    | tup h rs =>
      have hms : ms = ds.map M.fz := by
        clear r h rs
        induction ms generalizing ds with
        | nil => unfold leaves at e; cases e; rfl
        | cons m ms ih =>
          cases m with
          | fz d =>
            unfold leaves at e
            obtain ⟨ds', h1, rfl⟩ := Option.map_eq_some_iff.mp e
            rw [ih _ h1]; rfl
          | lst _ => unfold leaves at e; cases e
          | tup _ => unfold leaves at e; cases e
          | dK _ _ => unfold leaves at e; cases e
          | dT _ _ => unfold leaves at e; cases e
      rw [hms]
      exact ⟨_, _, rfl, h, rs.tms⟩
section
variable {X : Cx} {io : Nat → Bool} {f g : Ev → Res} {pos : Pos}
theorem ss_par2 {i j : Nat} {x y : Str} {c d : Expr} {px py pt : Pos} {kt k2 pt2} (hc : X.calm = true) (hN : X.N.Nodup) (ha : SA X (evs [f, g]) [c, d]) (hi : X.N[i]? = some x := by rfl) (hj : X.N[j]? = some y := by rfl)
    (hx : Loc X.env.scope x := by first | exact Or.inl rfl | exact Or.inr rfl) (hy : Loc X.env.scope y := by first | exact Or.inl rfl | exact Or.inr rfl)
    (fx : X.fn x = true ∨ X.env.scope.names.lookup x = some .local := by first | exact .inl rfl | exact .inr rfl | assumption) (fy : X.fn y = true ∨ X.env.scope.names.lookup y = some .local := by first | exact .inl rfl | exact .inr rfl | assumption)
    (hio : io i = false := by rfl) (hjo : io j = false := by rfl)
    (hs : swapsWithSole [.Tuple [.Name x px, .Name y py] kt pt] (.Tuple [c, d] k2 pt2) pos.line X.env = pure false := by rfl) (hw : swappedStores [.Tuple [.Name x px, .Name y py] kt pt] (.Tuple [c, d] k2 pt2) X.env = pure none := by rfl)
    (h1 : (assignEach [.Tuple [.Name x px, .Name y py] kt pt] X.env).map (·.2) = [assign (.Tuple [.Name x px, .Name y py] kt pt) X.env] := by rfl) (hn : (assignEach [.Name x px, .Name y py] X.env).length = 2 := by rfl) (hst : (assignEach [.Name x px, .Name y py] X.env).findIdx? (·.1) = none := by rfl)
    (e1 : (assignEach [.Name x px, .Name y py] X.env).map (·.2) = assign (.Name x px) X.env :: (assignEach [.Name y py] X.env).map (·.2) := by rfl) (e2 : (assignEach [.Name y py] X.env).map (·.2) = assign (.Name y py) X.env :: (assignEach [] X.env).map (·.2) := by rfl) :
    SS X io (dPar i j f g) (.Assign [.Tuple [.Name x px, .Name y py] kt pt] (.Tuple [c, d] k2 pt2) pos) := fun W tk => PS.imp (ps_asg ((tup_ ha : SE X (dTup [f, g]) (.Tuple [c, d] k2 pt2)) W tk) (pg_tup hc (pgs_cons (pg_name hN hi hx fx) (pgs_cons (pg_name hN hj hy fy) pgs_nil e2) e1) hn hst) hs hw h1) fun D σ H ⟨Z, O, env, I, h⟩ => by
  refine ⟨Z, O, env, I, ?_⟩
  unfold dPar at h
  split at h
  · rename_i m n e1 q ef
    have et : dTup [f, g] env = .ok (.own (mkTup [m, n])) e1 q.n := by
      unfold dTup dF
      rw [ef]
      rfl
    rw [et]
    split at h
    · rename_i hl
      intro v H' p
      obtain ⟨O', F, I', r, nd, nz, st⟩ := p.own1
      obtain ⟨a, xs, rfl, hq, rs⟩ := r.unTup
      cases rs with
      | cons r1 rr =>
        cases rr with
        | cons r2 rr =>
          cases rr
          rw [List.append_nil] at *
          obtain ⟨O2, I2, st2, gg⟩ := I'.put2 hl.1 r1 nd nz st
          obtain ⟨O3, I3, st3⟩ := I2.put (i := j) (by rw [List.length_set]; exact hl.2) (r2.imp gg) (List.nodup_append.mp nd).2.1 (fun a ha => nz a (List.mem_append_right _ ha)) st2
          exact ⟨a, _, rfl, hq.t, rfl, _, _, rfl, _, _, rfl, rfl, h _ _ ⟨⟨O3, I3, st3⟩, (Held.set hio).trans (Held.set hjo)⟩⟩
    · exact h.elim
  · exact h.elim
  · rename_i c e1 ef
    have et : dTup [f, g] env = .exn c e1 := by
      unfold dTup dF
      rw [ef]
    rw [et]
    exact EndS.exn h
  · exact h.elim
end
end Q

set_option Elab.async false
set_option linter.all false
set_option maxRecDepth 100000
set_option maxHeartbeats 4000000
/-! List comprehensions with two walks. -/
namespace Q
open PySem PySem.Spec PyProof.Rows L2

def runC2 (p : Tg) (t src : Ev → Res) (p1 : Tg) (t1 f : Ev → Res) (vs vs1 : List Nat) : List PyData → Ev → Option (List M × Ev × Ql)
  | [], env => some ([], env, .p)
  | d :: ds, env => match p d env with
    | none => none
    | some e1 => match t e1 with
      | .ok (.own (.fz (.bool b))) e2 q1 => (match b with
        | true => (match src e2 with
          | .ok (.own (.fz (.list ds1))) e3 q2 => (runC p1 t1 f vs1 ds1 (wipeE e3 vs1)).bind fun r1 =>
            (runC2 p t src p1 t1 f vs vs1 ds (wipeE r1.2.1 vs)).map fun r => (r1.1 ++ r.1, r.2.1, ((q1.j q2).j r1.2.2).j r.2.2)
          | _ => none)
        | false => (runC2 p t src p1 t1 f vs vs1 ds (wipeE e2 vs)).map fun r => (r.1, r.2.1, q1.j r.2.2))
      | _ => none
def dLc2 (p : Tg) (src t : Ev → Res) (p1 : Tg) (src1 t1 f : Ev → Res) (vs vs1 : List Nat) : Ev → Res := fun env => match src env with
  | .ok (.own (.fz (.list ds))) e q => if vs.all (calmAt e) = true then (match runC2 p t src1 p1 t1 f vs vs1 ds (wipeE e vs) with
    | some r => if r.1.length ≤ SZ then .ok (.own (.lst r.1)) (restE r.2.1 e vs) (q.j r.2.2).n else .stuck
    | none => .stuck) else .stuck
  | .ok _ _ _ => .stuck
  | .exn c e => .exn c e
  | .stuck => .stuck
section
variable {K : PySem.W.Frag} {mg : Str → Option Value} {H H' H0 H1 H2 H3 : Hp} {G G' Gv Gv' : Addr → Prop} {O O' O0 O1 O2 F F' F1 F2 : List Addr} {Z : Addr → Prop} {env env1 env2 e2 : Ev} {σ σ1 σ' : L2.St} {vs vs1 : List Nat} {S S1 : (Addr → Prop) → Hp → Prop} {D : Addr} {ms : List M} {q2 : Ql}
/-- the state ahead of a turn, the turns not counted -/
structure LcT (K : PySem.W.Frag) (Z : Addr → Prop) (O0 : List Addr) (H0 : Hp) (D : Addr) (S : (Addr → Prop) → Hp → Prop) (σw : L2.St) (vs : List Nat) (H : Hp) (e : Ev) (ms : List M) (q : Ql) : Prop where
  ex : ∃ O acc F, SI K (Zp Z (D :: F)) O e σw H ∧ H D = some (.lst acc) ∧ RMs K H (fun a => ¬ Z a ∧ a ∉ O ∧ a ∉ D :: F) acc ms F ∧ F.Nodup ∧ D ∉ F ∧ (∀ a ∈ D :: F, ¬ Z a) ∧ Step O0 H0 O (D :: F) H ∧ S (fun a => ¬ Zp Z (D :: F) a ∧ a ∉ O) H
  em : vs.all (emptyAt e) = true
  qu : q ≠ .l → Quiet H0 H ∧ H0 D = none
def KeepS (S : (Addr → Prop) → Hp → Prop) : Prop := ∀ {H H' : Hp} {G G' : Addr → Prop} {O : List Addr}, S G H → OM H O → (∀ a, G a → a ∉ O) → (∀ a o, a ∉ O → H a = some o → H' a = some o) → (∀ a o, G a → H a = some o → G' a) → S G' H'
theorem KeepS.and (k : KeepS S) (k1 : KeepS S1) : KeepS (fun G H => S G H ∧ S1 G H) := fun s om go fr gg => ⟨k s.1 om go fr gg, k1 s.2 om go fr gg⟩
theorem Lc.same2 {acc : List V} {e3 : Ev} {H3 : Hp} {O3 : List Addr} (I : SI K (Zp Z (D :: F)) O env σ1 H) (hD : H D = some (.lst acc)) (rm : RMs K H (fun a => ¬ Z a ∧ a ∉ O ∧ a ∉ D :: F) acc ms F) (nD : D ∉ F) (nz : ∀ a ∈ D :: F, ¬ Z a) (st : Step O0 H0 O (D :: F) H)
    (st3 : Step O H O3 [] H3) (I3 : SI K (Zp Z (D :: F)) O3 e3 σ H3) :
    H3 D = some (.lst acc) ∧ ∃ O5, SI K (Zp Z (D :: F)) O5 (wipeE e3 vs) (L2.wipe σ vs) H3 ∧ RMs K H3 (fun a => ¬ Z a ∧ a ∉ O5 ∧ a ∉ D :: F) acc ms F ∧ Step O0 H0 O5 (D :: F) H3 ∧ (∀ a o, a ∉ O → H a = some o → H3 a = some o ∧ a ∉ O5) ∧ ∀ a ∈ O5, a ∈ O3 := by
  have DO : D ∉ O := fun z => I.nz D z (.inr List.mem_cons_self)
  obtain ⟨hD3, DO3, _⟩ := st3.keep D _ DO hD
  obtain ⟨O5, I5, sub⟩ := I3.wipe vs
  have FO : ∀ a ∈ F, a ∉ O := fun a ha z => I.nz a z (.inr (List.mem_cons_of_mem _ ha))
  refine ⟨hD3, O5, I5, rm.step I.om (fun a g => g.2.1) FO (fun a o n e => (st3.keep a o n e).1) fun a o g e => ⟨g.1, fun z => (st3.keep a o g.2.1 e).2.1 (sub a z), g.2.2⟩, ⟨fun a o n e => ?_⟩, fun a o n e => ⟨(st3.keep a o n e).1, fun z => (st3.keep a o n e).2.1 (sub a z)⟩, sub⟩
  obtain ⟨ea, na, fa⟩ := st.keep a o n e
  obtain ⟨eb, nb, _⟩ := st3.keep a o na ea
  exact ⟨eb, fun z => nb (sub a z), fa⟩
theorem OM.cons {acc : List V} (h : OM H O) (hD : H D = some (.lst acc)) : OM H (D :: O) := fun b hb => by
  rcases List.mem_cons.mp hb with z | z
  · rw [z, hD]; exact ⟨fun xs z => (by cases z), fun o u z => (by cases z)⟩
  · exact h b z
/-- one turn of a comprehension's walk -/
theorem lc_turn {p : Tg} {t f : Ev → Res} {d : PyData} {rest : List PyData} {r2 : List M × Ev × Ql} {x : V} {Nx : Hp → Prop} (l2 : LcT K Z O H D S (L2.wipe σ vs) vs H2 e2 ms q2) (ks : KeepS S) (er2 : runC p t f vs (d :: rest) e2 = some r2) (hsz : (ms ++ r2.1).length ≤ SZ)
    (y : ∀ G, S G H2 → (∀ a o, H2 a = some o → H3 a = some o) ∧ RF K H3 G x d)
    (hN : ∀ H' e' ms' q' r', LcT K Z O H D S (L2.wipe σ vs) vs H' e' ms' q' → runC p t f vs rest e' = some r' → ms' ++ r'.1 = ms ++ r2.1 → r'.2.1 = r2.2.1 → q'.j r'.2.2 = q2.j r2.2.2 → Nx H') :
    TUG K (fun i => !vs.contains i) true p x (L2.wipe σ vs) H3 fun σ4 H4 => L2.wipe σ4 vs = L2.wipe σ vs ∧ TUT K mg (fun _ _ _ _ => False) t σ4 H4 fun b H5 =>
      if b = true then TU K mg (fun _ _ _ _ => False) f σ4 H5 fun v H6 => ∃ acc, H6 D = some (.lst acc) ∧ acc.length < sizeLine ∧ Nx (upd H6 D (.lst (acc ++ [v]))) else Nx H5 := by
  obtain ⟨O2, acc, F, I2, hD2, rm, nd, nD, nz, st, s2⟩ := l2.ex
  have hal : acc.length = ms.length := rm.two
  obtain ⟨gr, rf⟩ := y _ s2
  have I3 := I2.grow gr
  have st3 : Step O2 H2 O2 [] H3 := ⟨fun a o n e => ⟨gr a o e, n, fun z => nomatch z⟩⟩
  unfold runC at er2
  refine ⟨Zp Z (D :: F), O2, e2, d, I3, rf, ?_⟩
  cases ep : p d e2 with
  | none => simp only [ep] at er2; cases er2
  | some e4 =>
    simp only [ep] at er2
    intro σ4 H4 p4 qu4
    have qu4 := qu4 rfl
    obtain ⟨O4, I4, st4⟩ := p4.ex
    have hw : L2.wipe σ4 vs = L2.wipe σ vs := wipe_held p4.io
    refine ⟨hw, Zp Z (D :: F), O4, e4, I4, ?_⟩
    have st34 : Step O2 H2 O4 [] H4 := st3.tr0 st4
    have q34 : Quiet H2 H4 := fun a o e => qu4 a o (gr a o e)
    have sz : SZ = 16777216 := rfl
    have omD2 : OM H2 (D :: O2) := I2.om.cons hD2
    cases et : t e4 with
    | stuck => simp only [et] at er2; cases er2
    | exn c e5 => simp only [et] at er2; cases er2
    | ok xt e5 q5 =>
      simp only [et] at er2
      split at er2
      · rename_i b e5' q5' heq
        cases heq
        refine ⟨b, rfl, fun H5 p5 => ?_⟩
        obtain ⟨O5, I5, st5⟩ := p5.to
        have qu5 : q5 ≠ .l → Quiet H4 H5 := by obtain ⟨_, _, _, _, _, _, _, qu, _⟩ := p5.ex; exact qu
        have st25 : Step O2 H2 O5 [] H5 := st34.tr0 st5
        cases b with
        | false =>
          simp only [] at er2
          obtain ⟨r3, er3, rfl⟩ := Option.map_eq_some_iff.mp er2
          obtain ⟨hD5, O6, I6, rm6, st6, k6⟩ := Lc.same (vs := vs) I2 hD2 rm nD nz st st25 I5
          rw [hw] at I6
          refine iteF (hN _ _ ms (q2.j q5) r3 ⟨⟨O6, acc, F, I6, hD5, rm6, nd, nD, nz, st6, ?_⟩, wipeE_empty _ _, fun z => ⟨fun a o e => qu5 (qj_l z).2 a o (q34 a o ((l2.qu (qj_l z).1).1 a o e)), (l2.qu (qj_l z).1).2⟩⟩ er3 rfl rfl ?_)
          · refine ks s2 omD2 (fun a g hb => ?_) (fun a o n e => (k6 a o (fun z => n (List.mem_cons_of_mem _ z)) e).1) fun a o g e => ⟨g.1, (k6 a o g.2 e).2⟩
            rcases List.mem_cons.mp hb with z | z
            · exact g.1 (.inr (by rw [z]; exact List.mem_cons_self))
            · exact g.2 z
          · exact (ql_assoc _ _ _)
        | true =>
          simp only [] at er2
          refine iteT ⟨Zp Z (D :: F), O5, e5, I5, ?_⟩
          cases ef : f e5 with
          | stuck => simp only [ef] at er2; cases er2
          | exn c e6 => simp only [ef] at er2; cases er2
          | ok xf e6 q6 =>
            simp only [ef] at er2
            cases xf with
            | vw m => cases er2
            | own m =>
              simp only [] at er2
              obtain ⟨r3, er3, rfl⟩ := Option.map_eq_some_iff.mp er2
              intro v H6 p6
              have qu6 : q6 ≠ .l → Quiet H5 H6 := by obtain ⟨_, _, _, _, _, _, _, qu, _⟩ := p6.ex; exact qu
              obtain ⟨hD6, O7, F2, I7, rm7, nd7, nD7, nz7, st7, k7⟩ := Lc.add (vs := vs) I2 hD2 rm nd nD nz st st25 p6
              rw [hw] at I7
              refine ⟨acc, hD6, by rw [sizeLine_eq]; simp at hsz; omega, hN _ _ (ms ++ [m]) (q2.j (q5.j q6)) r3 ⟨⟨O7, acc ++ [v], F ++ F2, I7, upd_same, rm7, nd7, nD7, nz7, st7, ?_⟩, wipeE_empty _ _, fun z => ⟨fun a o e => ?_, (l2.qu (qj_l z).1).2⟩⟩ er3 (by simp) rfl ?_⟩
              · refine ks s2 omD2 (fun a g hb => ?_) (fun a o n e => (k7 a o (fun z => n (List.mem_cons_of_mem _ z)) (fun z => n (by rw [z]; exact List.mem_cons_self)) e).1) fun a o g e => ?_
                · rcases List.mem_cons.mp hb with z | z
                  · exact g.1 (.inr (by rw [z]; exact List.mem_cons_self))
                  · exact g.2 z
                · have ne : a ≠ D := fun z => g.1 (.inr (by rw [z]; exact List.mem_cons_self))
                  obtain ⟨_, n1, n2⟩ := k7 a o g.2 ne e
                  refine ⟨fun z => ?_, n1⟩
                  rcases z with z | z
                  · exact g.1 (.inl z)
                  · rcases List.mem_cons.mp z with z | z
                    · exact ne z
                    · rcases List.mem_append.mp z with z | z
                      · exact g.1 (.inr (List.mem_cons_of_mem _ z))
                      · exact n2 z
              · have hq := qj_l z
                have hq2 := qj_l hq.2
                have ne : a ≠ D := fun w => by rw [w, (l2.qu hq.1).2] at e; cases e
                rw [upd_ne ne]
                exact qu6 hq2.2 a o (qu5 hq2.1 a o (q34 a o ((l2.qu hq.1).1 a o e)))
              · exact (ql_assoc _ _ _)
      · cases er2
theorem wipe_sub {vs vs1 : List Nat} (h : ∀ i ∈ vs1, i ∈ vs) {τ τ' : L2.St} (e : L2.wipe τ vs1 = L2.wipe τ' vs1) : L2.wipe τ vs = L2.wipe τ' vs := by
  have out : ∀ {τ : L2.St} {i : Nat} {ws : List Nat}, i ∉ ws → (L2.wipe τ ws)[i]? = τ[i]? := L2.wipe_out
  have hl : τ.length = τ'.length := by
    have := congrArg List.length e
    rw [L2.wipe_length, L2.wipe_length] at this
    exact this
  have inn : ∀ {τ : L2.St} {i : Nat} {ws : List Nat}, i ∈ ws → i < τ.length → (L2.wipe τ ws)[i]? = some none := by
    intro τ i ws
    induction ws with
    | nil => intro h; cases h
    | cons w ws ih =>
      intro h hl
      unfold L2.wipe
      by_cases hw : w = i
      · subst hw
        rw [List.getElem?_set_self (by rw [L2.wipe_length]; exact hl)]
      · rw [List.getElem?_set_ne hw]
        rcases List.mem_cons.mp h with h | h
        · exact absurd h.symm hw
        · exact ih h hl
  apply List.ext_getElem?
  intro i
  by_cases hi : i ∈ vs
  · by_cases hlt : i < τ.length
    · rw [inn hi hlt, inn hi (by omega)]
    · rw [List.getElem?_eq_none (by rw [L2.wipe_length]; omega), List.getElem?_eq_none (by rw [L2.wipe_length]; omega)]
  · have hi1 : i ∉ vs1 := fun z => hi (h i z)
    rw [out hi, out hi, ← out hi1 (τ := τ), e, out hi1]
theorem tu_lc2 {W : WX} {p p1 : Tg} {src t f src1 t1 : Ev → Res} {Q : VK} (hv : ∀ i ∈ vs1, i ∈ vs) (h : TU K mg W (dLc2 p src t p1 src1 t1 f vs vs1) σ H Q) :
    tLc2 (TUI K mg W src) (TUG K (fun i => !vs.contains i) true p) (TUT K mg (fun _ _ _ _ => False) t) (TUI K mg (fun _ _ _ _ => False) src1) (TUG K (fun i => !vs1.contains i) true p1) (TUT K mg (fun _ _ _ _ => False) t1) (TU K mg (fun _ _ _ _ => False) f) vs vs1 σ H Q := by
  obtain ⟨Z, O, env, I, h⟩ := h
  refine ⟨Z, O, env, I, ?_⟩
  unfold dLc2 at h
  cases es : src env with
  | stuck => rw [es] at h; exact h.elim
  | exn c e1 => rw [es] at h; exact h
  | ok x e1 q =>
    rw [es] at h
    cases x with
    | vw m => exact h.elim
    | own m =>
      cases m with
      | lst _ => exact h.elim
      | tup _ => exact h.elim
      | dK _ _ => exact h.elim
      | dT _ _ => exact h.elim
      | fz d =>
        cases d with
        | none => exact h.elim
        | bool _ => exact h.elim
        | int _ => exact h.elim
        | dict _ => exact h.elim
        | str _ => exact h.elim
        | tuple _ => exact h.elim
        | list ds =>
          by_cases em : vs.all (calmAt e1) = true
          · simp only [if_pos em] at h
            intro J H1 O1' S0 I1' st1' qu1 hlen L0 s0 D hD
            obtain ⟨O1, I1, subO⟩ := I1'.wipe vs
            have st1 : Step O H O1 [] H1 := ⟨fun a o n e => let ⟨e2, n2, _⟩ := st1'.keep a o n e; ⟨e2, fun z => n2 (subO a z), fun z => nomatch z⟩⟩
            obtain ⟨S, hS⟩ : ∃ S, S = fun (G : Addr → Prop) (H : Hp) => S0 G H ∧ Stash K σ e1 vs G H := ⟨_, rfl⟩
            have L : Live K J ds S := by rw [hS]; exact L0.stash
            have s1 : S (fun a => ¬ Z a ∧ a ∉ O1) H1 := by
              rw [hS]
              exact (L0.stash (σ := σ) (e := e1) (vs := vs)).keep (G := fun a => ¬ Z a ∧ a ∉ O1') ⟨s0, I1'.stash (vs := vs)⟩ (O := []) (fun _ z => nomatch z) (fun _ _ z => nomatch z) (fun a o _ e => e) fun a o g _ => ⟨g.1, fun z => g.2 (subO a z)⟩
            have ks : KeepS S := L.keep
            cases er : runC2 p t src1 p1 t1 f vs vs1 ds (wipeE e1 vs) with
            | none => simp only [er] at h
            | some r =>
              simp only [er] at h
              by_cases hsz : r.1.length ≤ SZ
              · rw [if_pos hsz] at h
                have kD := upd_keep (o := HO.lst []) hD
                have hO1 : D ∉ O1 := fun z => by
                  obtain ⟨o, e, _⟩ := I1.owd D z
                  rw [hD] at e; cases e
                have hZ : ¬ Z D := fun z => by
                  obtain ⟨o, e⟩ := I1.zt D z
                  rw [hD] at e; cases e
                have omD : OM H1 [D] := fun b hb => by
                  rw [List.mem_singleton.mp hb, hD]
                  exact ⟨fun xs z => (by cases z), fun o u z => (by cases z)⟩
                obtain ⟨Pv, hPv⟩ : ∃ Pv : Nat → Hp → Prop, Pv = fun i H' => ∃ e' ms q', ∃ r', LcT K Z O H D S (L2.wipe σ vs) vs H' e' ms q' ∧ runC2 p t src1 p1 t1 f vs vs1 (ds.drop i) e' = some r' ∧ ms ++ r'.1 = r.1 ∧ r'.2.1 = r.2.1 ∧ q'.j r'.2.2 = q.j r.2.2 := ⟨_, rfl⟩
                have P0 : Pv 0 (upd H1 D (.lst [])) := by
                  rw [hPv]
                  refine ⟨wipeE e1 vs, [], q, r, ⟨⟨O1, [], [], ?_, upd_same, .nil, List.Pairwise.nil, (fun z => nomatch z), fun a ha => ?_, ⟨fun a o n e => ?_⟩, ?_⟩, wipeE_empty _ _, fun z => ⟨fun a o e => kD a o (qu1 z a o e), by
                    cases e : H D with
                    | none => rfl
                    | some o => have := qu1 z D o e; rw [hD] at this; cases this⟩⟩, er, rfl, rfl, rfl⟩
                  · have I2 := I1
                    obtain ⟨Fs, sl, e5⟩ := I2.sl
                    refine ⟨⟨Fs, Slots.stepL.Slots.all (O := [D]) (G' := fun a => ¬ Zp Z [D] a ∧ a ∉ O1) (H := H1) ?_ omD (fun b g hb => ?_) (fun j Fj ej b hb hc => ?_) (fun a o _ e => kD a o e) (fun b g => g), e5⟩, I2.nd, fun a ha z => ?_, fun a z => ?_⟩
                    · have key : ∀ {env : Ev} {σ : L2.St} {Fs : List (List Addr)}, Slots K H1 (fun a => ¬ Z a ∧ a ∉ O1) env σ Fs → Slots K H1 (fun a => ¬ Zp Z [D] a ∧ a ∉ O1) env σ Fs := by
                        intro env σ Fs s
                        induction s with
                        | nil => exact .nil
                        | non _ ih => exact .non ih
                        | som h _ ih =>
                          refine .som (h.step (O := []) (fun _ z => nomatch z) (fun _ _ z => nomatch z) (fun _ _ z => nomatch z) (fun a o _ e => e) fun a o g e => ⟨fun z => ?_, g.2⟩) ih
                          rcases z with z | z
                          · exact g.1 z
                          · rw [List.mem_singleton.mp z, hD] at e; cases e
                      exact key sl
                    · rw [List.mem_singleton.mp hb] at g
                      exact g.1 (.inr List.mem_cons_self)
                    · rw [List.mem_singleton.mp hc] at hb
                      exact hO1 (by rw [← e5]; exact mem_flat_at ej hb)
                    · rcases z with z | z
                      · exact I1.nz a ha z
                      · rw [List.mem_singleton.mp z] at ha; exact hO1 ha
                    · rcases z with z | z
                      · exact (I1.zt a z).imp fun o e => kD a o e
                      · rw [List.mem_singleton.mp z]; exact ⟨_, upd_same⟩
                  · rw [List.mem_singleton.mp ha]; exact hZ
                  · obtain ⟨e2, n2, _⟩ := st1.keep a o n e
                    refine ⟨kD a o e2, n2, fun z => ?_⟩
                    rw [List.mem_singleton.mp z, hD] at e2; cases e2
                  · refine L.keep s1 (O := []) (fun _ z => nomatch z) (fun _ _ z => nomatch z) (fun a o _ e => kD a o e) fun a o g e => ⟨fun z => ?_, g.2⟩
                    rcases z with z | z
                    · exact g.1 z
                    · rw [List.mem_singleton.mp z, hD] at e; cases e
                refine ⟨fun i m H' => m = ds.length - i ∧ i ≤ ds.length ∧ Pv i H', ⟨ds.length, by simp, Nat.zero_le _, P0⟩, ?_⟩
                rintro i m H2 ⟨rfl, hi, pv⟩
                have pv2 := pv
                rw [hPv] at pv
                obtain ⟨e2, ms, q2, r2, l2, er2, em1, em2, em3⟩ := pv
                obtain ⟨O2, acc, F, I2, hD2, rm, nd, nD, nz, st, s2⟩ := l2.ex
                by_cases hlt : i < ds.length
                · refine .inr ⟨L.goes i H2 _ hlt s2, Pv (i + 1), fun H' p' => ⟨ds.length - (i + 1), by omega, rfl, hlt, p'⟩, fun x H3 y => ?_⟩
                  obtain ⟨gr, rf⟩ := L.yields i H2 x H3 _ ds[i] (List.getElem?_eq_getElem hlt) s2 y
                  have I3 := I2.grow gr
                  have st3 : Step O2 H2 O2 [] H3 := ⟨fun a o n e => ⟨gr a o e, n, fun z => nomatch z⟩⟩
                  rw [List.drop_eq_getElem_cons hlt] at er2
                  unfold runC2 at er2
                  refine ⟨Zp Z (D :: F), O2, e2, ds[i], I3, rf, ?_⟩
                  cases ep : p ds[i] e2 with
                  | none => simp only [ep] at er2; cases er2
                  | some e4 =>
                    simp only [ep] at er2
                    intro σ4 H4 p4 qu4
                    have qu4 := qu4 rfl
                    obtain ⟨O4, I4, st4⟩ := p4.ex
                    have hw : L2.wipe σ4 vs = L2.wipe σ vs := wipe_held p4.io
                    refine ⟨hw, Zp Z (D :: F), O4, e4, I4, ?_⟩
                    have st34 : Step O2 H2 O4 [] H4 := st3.tr0 st4
                    have q34 : Quiet H2 H4 := fun a o e => qu4 a o (gr a o e)
                    have omD2 : OM H2 (D :: O2) := I2.om.cons hD2
                    cases et : t e4 with
                    | stuck => simp only [et] at er2; cases er2
                    | exn c e5 => simp only [et] at er2; cases er2
                    | ok xt e5 q5 =>
                      simp only [et] at er2
                      split at er2
                      · rename_i b e5' q5' heq
                        cases heq
                        refine ⟨b, rfl, fun H5 p5 => ?_⟩
                        obtain ⟨O5, I5, st5⟩ := p5.to
                        have qu5 : q5 ≠ .l → Quiet H4 H5 := by obtain ⟨_, _, _, _, _, _, _, qu, _⟩ := p5.ex; exact qu
                        have st25 : Step O2 H2 O5 [] H5 := st34.tr0 st5
                        cases b with
                        | false =>
                          simp only [] at er2
                          obtain ⟨r3, er3, rfl⟩ := Option.map_eq_some_iff.mp er2
                          obtain ⟨hD5, O6, I6, rm6, st6, k6⟩ := Lc.same (vs := vs) I2 hD2 rm nD nz st st25 I5
                          rw [hw] at I6
                          refine iteF ?_
                          rw [hPv]
                          refine ⟨_, ms, q2.j q5, r3, ⟨⟨O6, acc, F, I6, hD5, rm6, nd, nD, nz, st6, ?_⟩, wipeE_empty _ _, fun z => ⟨fun a o e => qu5 (qj_l z).2 a o (q34 a o ((l2.qu (qj_l z).1).1 a o e)), (l2.qu (qj_l z).1).2⟩⟩, er3, em1, em2, ?_⟩
                          · refine L.keep s2 omD2 (fun a g hb => ?_) (fun a o n e => (k6 a o (fun z => n (List.mem_cons_of_mem _ z)) e).1) fun a o g e => ⟨g.1, (k6 a o g.2 e).2⟩
                            rcases List.mem_cons.mp hb with z | z
                            · exact g.1 (.inr (by rw [z]; exact List.mem_cons_self))
                            · exact g.2 z
                          · rw [← em3]; exact (ql_assoc _ _ _)
                        | true =>
                          simp only [] at er2
                          refine iteT ⟨Zp Z (D :: F), O5, e5, I5, ?_⟩
                          cases es1 : src1 e5 with
                          | stuck => simp only [es1] at er2; cases er2
                          | exn c e6 => simp only [es1] at er2; cases er2
                          | ok x1 e6 q6 =>
                            simp only [es1] at er2
                            split at er2
                            · rename_i ds1 e6' q6' heq
                              cases heq
                              simp only []
                              obtain ⟨r1, er1, er2⟩ := Option.bind_eq_some_iff.mp er2
                              obtain ⟨r3, er3, rfl⟩ := Option.map_eq_some_iff.mp er2
                              intro J1 H6 O6 S1 I6 st6 qu6 hlen1 L1 s1
                              obtain ⟨hD7, O7, I7, rm7, st7, k7, sub7⟩ := Lc.same2 (vs := vs1) I2 hD2 rm nD nz st (st25.tr0 st6) I6
                              have ks1 : KeepS S1 := L1.keep
                              obtain ⟨Pw, hPw⟩ : ∃ Pw : Nat → Hp → Prop, Pw = fun j H' => ∃ e' ms' q', ∃ r', LcT K Z O H D (fun G H => S G H ∧ S1 G H) (L2.wipe σ4 vs1) vs1 H' e' ms' q' ∧ runC p1 t1 f vs1 (ds1.drop j) e' = some r' ∧ ms' ++ r'.1 = ms ++ r1.1 ∧ r'.2.1 = r1.2.1 ∧ q'.j r'.2.2 = (q2.j (q5.j q6)).j r1.2.2 := ⟨_, rfl⟩
                              have W0' : Pw 0 H6 := by
                                rw [hPw]
                                refine ⟨wipeE e6 vs1, ms, q2.j (q5.j q6), r1, ⟨⟨O7, acc, F, I7, hD7, rm7, nd, nD, nz, st7, ?_, ?_⟩, wipeE_empty _ _, fun z => ⟨fun a o e => qu6 (qj_l (qj_l z).2).2 a o (qu5 (qj_l (qj_l z).2).1 a o (q34 a o ((l2.qu (qj_l z).1).1 a o e))), (l2.qu (qj_l z).1).2⟩⟩, er1, rfl, rfl, rfl⟩
                                · refine L.keep s2 omD2 (fun a g hb => ?_) (fun a o n e => (k7 a o (fun z => n (List.mem_cons_of_mem _ z)) e).1) fun a o g e => ⟨g.1, (k7 a o g.2 e).2⟩
                                  rcases List.mem_cons.mp hb with z | z
                                  · exact g.1 (.inr (by rw [z]; exact List.mem_cons_self))
                                  · exact g.2 z
                                · exact L1.keep s1 (O := []) (fun _ z => nomatch z) (fun _ _ z => nomatch z) (fun a o _ e => e) fun a o g e => ⟨g.1, fun z => g.2 (sub7 a z)⟩
                              refine ⟨fun j k H' => k = ds1.length - j ∧ j ≤ ds1.length ∧ Pw j H', ⟨ds1.length, by simp, Nat.zero_le _, W0'⟩, ?_⟩
                              rintro j k H7 ⟨rfl, hj, pw⟩
                              rw [hPw] at pw
                              obtain ⟨e', ms', q', r', l', er', ea', eb', ec'⟩ := pw
                              by_cases hjl : j < ds1.length
                              · obtain ⟨_, _, _, _, _, _, _, _, _, _, sa, sb⟩ := l'.ex
                                refine .inr ⟨L1.goes j H7 _ hjl sb, Pw (j + 1), fun H' p' => ⟨ds1.length - (j + 1), by omega, rfl, hjl, p'⟩, fun x1 H8 y1 => ?_⟩
                                rw [List.drop_eq_getElem_cons hjl] at er'
                                refine lc_turn l' (ks.and ks1) er' ?_ (fun G s => L1.yields j H7 x1 H8 G ds1[j] (List.getElem?_eq_getElem hjl) s.2 y1) fun H' e'' ms'' q'' r'' l'' er'' h1 h2 h3 => ?_
                                · rw [ea']
                                  have : (ms ++ (r1.1 ++ r3.1)).length ≤ SZ := by
                                    have e9 : ms ++ (r1.1 ++ r3.1) = r.1 := em1
                                    rw [e9]; exact hsz
                                  simp at this ⊢; omega
                                · rw [hPw]
                                  exact ⟨e'', ms'', q'', r'', l'', er'', h1.trans ea', h2.trans eb', h3.trans ec'⟩
                              · obtain ⟨O8, acc8, F8, I8, hD8, rm8, nd8, nD8, nz8, st8, sa, sb⟩ := l'.ex
                                have ej : j = ds1.length := by omega
                                subst ej
                                refine .inl ⟨L1.stops H7 _ sb, ?_⟩
                                rw [List.drop_length] at er'
                                cases er'
                                rw [List.append_nil] at ea'
                                obtain ⟨O9, I9, sub9⟩ := (SI.unvoid I8 l'.em).wipe vs
                                rw [hw] at I9
                                rw [hPv]
                                refine ⟨wipeE e' vs, ms', q', r3, ⟨⟨O9, acc8, F8, I9, hD8, rm8.imp fun a g => ⟨g.1, fun z => g.2.1 (sub9 a z), g.2.2⟩, nd8, nD8, nz8, ⟨fun a o n e => let ⟨e2, n2, f2⟩ := st8.keep a o n e; ⟨e2, fun z => n2 (sub9 a z), f2⟩⟩, ?_⟩, wipeE_empty _ _, fun z => l'.qu z⟩, ?_, ?_, em2, ?_⟩
                                · exact L.keep sa (O := []) (fun _ z => nomatch z) (fun _ _ z => nomatch z) (fun a o _ e => e) fun a o g e => ⟨g.1, fun z => g.2 (sub9 a z)⟩
                                · have eb'' : e' = r1.2.1 := eb'
                                  rw [eb'']; exact er3
                                · rw [ea', List.append_assoc]; exact em1
                                · have ec2 : q'.j .p = (q2.j (q5.j q6)).j r1.2.2 := ec'
                                  have e5 : q'.j Ql.p = q' := by cases q' <;> rfl
                                  rw [e5] at ec2
                                  rw [ec2, ← em3]
                                  show ((q2.j (q5.j q6)).j r1.2.2).j r3.2.2 = q2.j (((q5.j q6).j r1.2.2).j r3.2.2)
                                  exact (congrArg (·.j r3.2.2) (ql_assoc q2 (q5.j q6) r1.2.2)).trans (ql_assoc q2 _ _)
                            · cases er2
                      · cases er2
                · have ei : i = ds.length := by omega
                  subst ei
                  refine .inl ⟨L.stops H2 _ s2, ?_⟩
                  rw [List.drop_length] at er2
                  cases er2
                  rw [List.append_nil] at em1
                  subst em1
                  have em2 : e2 = r.2.1 := em2
                  have em3 : q2.j .p = q.j r.2.2 := em3
                  subst em2
                  subst hS
                  obtain ⟨O3, I3, sub3⟩ := I2.rest l2.em em s2.2
                  refine h _ H2 ⟨O3, D :: F, I3, ?_, List.nodup_cons.mpr ⟨nD, nd⟩, nz, ⟨fun a o n e => let ⟨e2, n2, f2⟩ := st.keep a o n e; ⟨e2, fun z => n2 (sub3 a z), f2⟩⟩, fun z => (l2.qu fun w => z ?_).1, fun z => (qn_p z).elim⟩
                  · have r9 : RMs K H2 (fun a => ¬ Z a ∧ a ∉ O3 ∧ a ∉ D :: F) acc r.1 F := rm.imp fun a g => ⟨g.1, fun z => g.2.1 (sub3 a z), g.2.2⟩
                    simpa using RVs.own (F := D :: F) (RM.lst hD2 r9) .nil
                  · rw [← em3, w]; rfl
              · rw [if_neg hsz] at h; exact h.elim
          · simp only [if_neg em] at h
end
section
variable {X : Cx} {io : Nat → Bool} {f g t src src1 t1 : Ev → Res} {p p1 : Tg} {elt tg iter e tg1 iter1 : Expr} {ifs ifs1 : List Expr} {scope : Scope} {own : List (Str × Nat)} {vs1 : List Nat} {pos spos : Pos}
theorem se_lc2 (hc : X.calm = true) (hN : X.N.Nodup) (hi : SIT X tg src iter) (ok : BlkOk X.N X.env.scope scope own) (hv : vs1.all (fun i => (ixs own).contains i) = true)
    (hg : ∀ (s : Shared) (H : Hp) (C : Addr) (cl : List (Str × Addr)) (fp : List Addr), SG (X.blk s H scope (compEnvC scope cl C X.env) fp) (offs own) true p tg)
    (ht : ∀ (s : Shared) (H : Hp) (C : Addr) (cl : List (Str × Addr)) (fp : List Addr), STs (X.blk s H scope (compEnvC scope cl C X.env) fp) t ifs)
    (hi1 : ∀ (s : Shared) (H : Hp) (C : Addr) (cl : List (Str × Addr)) (fp : List Addr), SIT (X.blk s H scope (compEnvC scope cl C X.env) fp) tg1 src1 iter1)
    (hg1 : ∀ (s : Shared) (H : Hp) (C : Addr) (cl : List (Str × Addr)) (fp : List Addr), SG (X.blk s H scope (compEnvC scope cl C X.env) fp) (fun i => !vs1.contains i) true p1 tg1)
    (ht1 : ∀ (s : Shared) (H : Hp) (C : Addr) (cl : List (Str × Addr)) (fp : List Addr), STs (X.blk s H scope (compEnvC scope cl C X.env) fp) t1 ifs1)
    (he : ∀ (s : Shared) (H : Hp) (C : Addr) (cl : List (Str × Addr)) (fp : List Addr), SE (X.blk s H scope (compEnvC scope cl C X.env) fp) f elt) (hs : ∀ x, foldedSetIterable iter X.env x = pure x := by intro _; rfl) (hs1 : ∀ env x, foldedSetIterable iter1 env x = pure x := by intro _ _; rfl) :
    SE X (dLc2 p src t p1 src1 t1 f (ixs own) vs1) (.ListComp elt [⟨tg, iter, ifs, 0⟩, ⟨tg1, iter1, ifs1, 0⟩] scope pos) := fun W tk =>
  have hv2 : ∀ i ∈ vs1, i ∈ ixs own := fun i hi => by
    have := List.all_eq_true.mp hv i hi
    simpa using this
  PE.imp (pe_lc2 (vs1 := vs1) (g := TUG X.K (offs own) true p) (tt := TUT X.K X.mg W0 t) (g1 := TUG X.K (fun i => !vs1.contains i) true p1) (tt1 := TUT X.K X.mg W0 t1) (wi1 := TUI X.K X.mg W0 src1) (te := TU X.K X.mg W0 f) hc hN (hi W tk) ok hv2 hg ht (fun s H C cl fp => hi1 s H C cl fp _ takes0) hg1 ht1 (fun s H C cl fp => he s H C cl fp _ takes0) hs hs1) fun σ H Q h => tu_lc2 hv2 h
theorem ss_setLc2 {i : Nat} {y : Str} {py : Pos} (hc : X.calm = true) (hN : X.N.Nodup) (hy : X.N[i]? = some y) (hyl : X.env.scope.names.lookup y = some .local)
    (hsw : swapsWith (.ListComp elt [⟨tg, iter, ifs, 0⟩, ⟨tg1, iter1, ifs1, 0⟩] scope pos) (some (.Name y py)) spos.line X.env = pure true) (hi : SIT X tg src iter) (ok : BlkOk X.N X.env.scope scope own) (hv : vs1.all (fun i => (ixs own).contains i) = true)
    (hg : ∀ (s : Shared) (H : Hp) (C : Addr) (cl : List (Str × Addr)) (fp : List Addr), SG (X.blk s H scope (compEnvC scope cl C X.env) fp) (offs own) true p tg)
    (ht : ∀ (s : Shared) (H : Hp) (C : Addr) (cl : List (Str × Addr)) (fp : List Addr), STs (X.blk s H scope (compEnvC scope cl C X.env) fp) t ifs)
    (hi1 : ∀ (s : Shared) (H : Hp) (C : Addr) (cl : List (Str × Addr)) (fp : List Addr), SIT (X.blk s H scope (compEnvC scope cl C X.env) fp) tg1 src1 iter1)
    (hg1 : ∀ (s : Shared) (H : Hp) (C : Addr) (cl : List (Str × Addr)) (fp : List Addr), SG (X.blk s H scope (compEnvC scope cl C X.env) fp) (fun i => !vs1.contains i) true p1 tg1)
    (ht1 : ∀ (s : Shared) (H : Hp) (C : Addr) (cl : List (Str × Addr)) (fp : List Addr), STs (X.blk s H scope (compEnvC scope cl C X.env) fp) t1 ifs1)
    (he : ∀ (s : Shared) (H : Hp) (C : Addr) (cl : List (Str × Addr)) (fp : List Addr), SE (X.blk s H scope (compEnvC scope cl C X.env) fp) f elt) (hio : io i = false := by rfl) (hs : ∀ x, foldedSetIterable iter X.env x = pure x := by intro _; rfl) (hs1 : ∀ env x, foldedSetIterable iter1 env x = pure x := by intro _ _; rfl) :
    SS X io (dSet i (dLc2 p src t p1 src1 t1 f (ixs own) vs1)) (.Assign [.Name y py] (.ListComp elt [⟨tg, iter, ifs, 0⟩, ⟨tg1, iter1, ifs1, 0⟩] scope pos) spos) := fun W tk =>
  have hv2 : ∀ i ∈ vs1, i ∈ ixs own := fun i hi => by
    have := List.all_eq_true.mp hv i hi
    simpa using this
  PS.imp (ps_setLc2 (vs1 := vs1) (g := TUG X.K (offs own) true p) (tt := TUT X.K X.mg W0 t) (g1 := TUG X.K (fun i => !vs1.contains i) true p1) (tt1 := TUT X.K X.mg W0 t1) (wi1 := TUI X.K X.mg W0 src1) (te := TU X.K X.mg W0 f) hc hN hy hyl hsw (hi W tk) ok hv2 hg ht (fun s H C cl fp => hi1 s H C cl fp _ takes0) hg1 ht1 (fun s H C cl fp => he s H C cl fp _ takes0) hs hs1) fun D σ H ⟨Z, O, env, I, h⟩ => by
    refine tu_lc2 hv2 ⟨Z, O, env, I, ?_⟩
    unfold dSet at h
    cases ef : dLc2 p src t p1 src1 t1 f (ixs own) vs1 env with
    | stuck => rw [ef] at h; exact h
    | exn c e1 => rw [ef] at h; exact EndS.exn h
    | ok y e1 q =>
      rw [ef] at h
      cases y with
      | vw m => exact h.elim
      | own m =>
        intro v H' p
        simp only [put1] at h
        split at h
        · rename_i hl
          obtain ⟨O', F, I', r, nd, nz, st⟩ := p.own1
          obtain ⟨O2, I2, st2⟩ := I'.put hl r nd nz st
          exact h _ _ ⟨⟨O2, I2, st2⟩, Held.set hio⟩
        · exact h.elim
theorem ss_setLc2F {i : Nat} {y : Str} {py : Pos} (hc : X.calm = true) (hN : X.N.Nodup) (hy : X.N[i]? = some y) (hyl : X.env.scope.names.lookup y = some .local)
    (hsw : swapsWith (.ListComp elt [⟨tg, iter, ifs, 0⟩, ⟨tg1, iter1, ifs1, 0⟩] scope pos) (some (.Name y py)) spos.line X.env = pure true) (hi : SIT X tg src iter) (ok : BlkOk X.N X.env.scope scope own) (hv : vs1.all (fun i => (ixs own).contains i) = true)
    (hg : ∀ (s : Shared) (H : Hp) (C : Addr) (cl : List (Str × Addr)) (fp : List Addr), SG (X.blk s H scope (compEnvC scope cl C X.env) fp) (offs own) true p tg)
    (ht : ∀ (s : Shared) (H : Hp) (C : Addr) (cl : List (Str × Addr)) (fp : List Addr), STs (X.blk s H scope (compEnvC scope cl C X.env) fp) t ifs)
    (hi1 : ∀ (s : Shared) (H : Hp) (C : Addr) (cl : List (Str × Addr)) (fp : List Addr), SIT (X.blk s H scope (compEnvC scope cl C X.env) fp) tg1 src1 iter1)
    (hg1 : ∀ (s : Shared) (H : Hp) (C : Addr) (cl : List (Str × Addr)) (fp : List Addr), SG (X.blk s H scope (compEnvC scope cl C X.env) fp) (fun i => !vs1.contains i) true p1 tg1)
    (ht1 : ∀ (s : Shared) (H : Hp) (C : Addr) (cl : List (Str × Addr)) (fp : List Addr), STs (X.blk s H scope (compEnvC scope cl C X.env) fp) t1 ifs1)
    (he : ∀ (s : Shared) (H : Hp) (C : Addr) (cl : List (Str × Addr)) (fp : List Addr), SE (X.blk s H scope (compEnvC scope cl C X.env) fp) f elt) (hio : io i = false := by rfl) (hs : ∀ x, foldedSetIterable iter X.env x = pure x := by intro _; rfl) (hs1 : ∀ env x, foldedSetIterable iter1 env x = pure x := by intro _ _; rfl) :
    SS X io (dSetF i (dLc2 p src t p1 src1 t1 f (ixs own) vs1)) (.Assign [.Name y py] (.ListComp elt [⟨tg, iter, ifs, 0⟩, ⟨tg1, iter1, ifs1, 0⟩] scope pos) spos) := fun W tk =>
  have hv2 : ∀ i ∈ vs1, i ∈ ixs own := fun i hi => by
    have := List.all_eq_true.mp hv i hi
    simpa using this
  PS.imp (ps_setLc2 (vs1 := vs1) (g := TUG X.K (offs own) true p) (tt := TUT X.K X.mg W0 t) (g1 := TUG X.K (fun i => !vs1.contains i) true p1) (tt1 := TUT X.K X.mg W0 t1) (wi1 := TUI X.K X.mg W0 src1) (te := TU X.K X.mg W0 f) hc hN hy hyl hsw (hi W tk) ok hv2 hg ht (fun s H C cl fp => hi1 s H C cl fp _ takes0) hg1 ht1 (fun s H C cl fp => he s H C cl fp _ takes0) hs hs1) fun D σ H ⟨Z, O, env, I, h⟩ => by
    refine tu_lc2 hv2 ⟨Z, O, env, I, ?_⟩
    unfold dSetF dSet dFr at h
    cases ef : dLc2 p src t p1 src1 t1 f (ixs own) vs1 env with
    | stuck => rw [ef] at h; exact h
    | exn c e1 => rw [ef] at h; exact EndS.exn h
    | ok y e1 q =>
      rw [ef] at h
      cases y with
      | vw m => exact h.elim
      | own m =>
        simp only [] at h
        intro v H' p
        cases ed : frz m with
        | none => simp only [ed] at h; exact h.elim
        | some d =>
          simp only [ed, put1] at h
          split at h
          · rename_i hl
            obtain ⟨O', F, I', r, nd, nz, st⟩ := (p.fr ed).own1
            obtain ⟨O2, I2, st2⟩ := I'.put hl r nd nz st
            exact h _ _ ⟨⟨O2, I2, st2⟩, Held.set hio⟩
          · exact h.elim
end
/-- the run, nothing changed by it -/
theorem runC2_q {p p1 : Tg} {t src t1 f : Ev → Res} {vs vs1 : List Nat} {env : Ev} (b : PyData → Bool) (g : PyData → List PyData) (b1 : PyData → PyData → Bool) (g1 : PyData → PyData → M) : ∀ {ds : List PyData}, (∀ d ∈ ds, ∃ e1, p d env = some e1 ∧ YQ t e1 (.own (.fz (.bool (b d)))) ∧ (b d = true → YQ src e1 (.own (.fz (.list (g d)))) ∧ wipeE e1 vs1 = e1 ∧
      ∀ d1 ∈ g d, ∃ e2, p1 d1 e1 = some e2 ∧ YQ t1 e2 (.own (.fz (.bool (b1 d d1)))) ∧ (b1 d d1 = true → YQ f e2 (.own (g1 d d1))) ∧ wipeE e2 vs1 = e1) ∧ wipeE e1 vs = env) →
    ∃ q, runC2 p t src p1 t1 f vs vs1 ds env = some ((ds.filter b).flatMap fun d => ((g d).filter (b1 d)).map (g1 d), env, q) ∧ q ≠ .l
  | [], _ => ⟨.p, rfl, by simp⟩
  | d :: ds, h => by
    obtain ⟨e1, h1, ⟨q1, h2, n1⟩, h3, h4⟩ := h d List.mem_cons_self
    obtain ⟨q, e, n⟩ := runC2_q b g b1 g1 (ds := ds) fun x hx => h x (List.mem_cons_of_mem _ hx)
    unfold runC2
    simp only [h1, h2]
    cases hb : b d with
    | true =>
      obtain ⟨⟨q3, h5, n3⟩, h6, h7⟩ := h3 hb
      obtain ⟨q4, h8, n4⟩ := runC_q (p := p1) (t := t1) (f := f) (vs := vs1) (env := e1) (b1 d) (g1 d) h7
      refine ⟨((q1.j q3).j q4).j q, ?_, jnl (jnl (jnl n1 n3) n4) n⟩
      simp only [h5, h6, h8, Option.bind_some, h4, e, Option.map_some, List.filter_cons, hb, if_true, List.flatMap_cons]
    | false =>
      refine ⟨q1.j q, ?_, jnl n1 n⟩
      simp only [h4, e, Option.map_some, List.filter_cons, hb]
      simp
theorem yq_lc2 {p p1 : Tg} {src t src1 t1 f : Ev → Res} {vs vs1 : List Nat} {env : Ev} {ds : List PyData} (env0 : Ev) (b : PyData → Bool) (g : PyData → List PyData) (b1 : PyData → PyData → Bool) (g1 : PyData → PyData → M) (hs : YQ src env (.own (.fz (.list ds))))
    (he : ∀ d ∈ ds, ∃ e1, p d env0 = some e1 ∧ YQ t e1 (.own (.fz (.bool (b d)))) ∧ (b d = true → YQ src1 e1 (.own (.fz (.list (g d)))) ∧ wipeE e1 vs1 = e1 ∧
      ∀ d1 ∈ g d, ∃ e2, p1 d1 e1 = some e2 ∧ YQ t1 e2 (.own (.fz (.bool (b1 d d1)))) ∧ (b1 d d1 = true → YQ f e2 (.own (g1 d d1))) ∧ wipeE e2 vs1 = e1) ∧ wipeE e1 vs = env0)
    (hz : ((ds.filter b).flatMap fun d => ((g d).filter (b1 d)).map (g1 d)).length ≤ SZ)
    (hc : vs.all (calmAt env) = true := by rfl) (hw : wipeE env vs = env0 := by rfl) (hr : restE env0 env vs = env := by rfl) :
    YQ (dLc2 p src t p1 src1 t1 f vs vs1) env (.own (.lst ((ds.filter b).flatMap fun d => ((g d).filter (b1 d)).map (g1 d)))) := by
  obtain ⟨q, e, n⟩ := hs
  obtain ⟨q2, e2, n2⟩ := runC2_q (p := p) (t := t) (f := f) b g b1 g1 he
  refine ⟨(q.j q2).n, ?_, nnl (jnl n n2)⟩
  unfold dLc2
  rw [e]
  simp only [hc, if_true, hw, e2, hr, if_pos hz]
end Q

set_option Elab.async false
set_option linter.all false
set_option maxRecDepth 100000
set_option maxHeartbeats 4000000
/-! list(range(n)); x.pop(i); sorted of a tuple of ints. -/
namespace Q
open PySem PySem.Spec PyProof.Rows L2

/-! ### list(range(n)) -/
def kLRng : List Val → Option (Val × Bool)
  | [.own (.fz (.int j))] => if -(2 ^ 62) ≤ j ∧ j ≤ SZ then some (.own (.lst ((rngD 0 j.toNat).map .fz)), true) else none
  | _ => none
theorem rfs_rg {K : PySem.W.Frag} {H : Hp} {G : Addr → Prop} (j : Int) : RFs K H G (rgV 0 j) (rngD 0 j.toNat) := by
  have key : ∀ (l : List Nat), RFs K H G (l.map fun i => V.int (0 + (i : Nat))) (l.map fun (i : Nat) => PyData.int (0 + (i : Int))) := by
    intro l
    induction l with
    | nil => exact .nil
    | cons a l ih => exact .cons (.int _) ih
  unfold rgV rngD
  rw [Int.sub_zero]
  exact key _
theorem evs_one {f : Ev → Res} {env e1 : Ev} {x : Val} {q : Ql} (h : f env = .ok x e1 q) : evs [f] env = .ok [x] e1 q := by
  unfold evs
  rw [h]
  cases x <;> cases q <;> rfl
section
variable {X : Cx} {a : Expr} {f : Ev → Res} {p pos p2 pos2 : Pos}
theorem se_lrng (hc : X.calm = true) (hm : X.mg "list" = none) (hmr : X.mg "range" = none) (ha : SE X f a) (hg : Gl X "list" := by rfl) (hgr : Gl X "range" := by rfl) (na : starEach [a] X.env = (false, eval a X.env) :: starEach [] X.env := by rfl)
    (na2 : starEach [.Call (.Name "range" p2) [a] [] pos2] X.env = (false, eval (.Call (.Name "range" p2) [a] [] pos2) X.env) :: starEach [] X.env := by rfl) :
    SE X (dG kLRng [f]) (.Call (.Name "list" p) [.Call (.Name "range" p2) [a] [] pos2] [] pos) := fun W tk =>
  PE.imp (pe_listRg hc hg hm (prg_1 hgr hmr (ha W tk) na) na2) fun σ H Q ⟨Z, O, env, I, h⟩ => by
    refine ⟨Z, O, env, I, ?_⟩
    unfold dG at h
    cases ef : f env with
    | stuck =>
      have e : evs [f] env = .stuck := by unfold evs; rw [ef]
      rw [e] at h; exact h.elim
    | exn c e1 =>
      have e : evs [f] env = .exn c e1 := by unfold evs; rw [ef]
      rw [e] at h; exact h
    | ok x e1 q =>
      rw [evs_one ef] at h
      simp only [] at h
      cases ek : kLRng [x] with
      | none => simp only [ek] at h
      | some yn =>
        simp only [ek] at h
        unfold kLRng at ek
        split at ek
        · rename_i j heq
          cases heq
          split at ek
          · rename_i hj
            cases ek
            intro v H1 p1
            obtain ⟨O1, I1, r1, st1, _⟩ := p1.fz1
            cases r1.intI
            have sz : SZ = 16777216 := rfl
            refine ⟨j, rfl, ⟨by omega, by omega, hj.1, by omega, by omega⟩, fun l hn => h _ _ ?_⟩
            obtain ⟨O', F, pa⟩ := p1.ex
            exact pa.newL (rfs_rg j).tms (List.nil_sublist _) hn
          · cases ek
        · cases ek
end

/-! ### x.pop(i) -/
theorem RMs.erase {K : PySem.W.Frag} {H : Hp} {G : Addr → Prop} : ∀ {xs : List V} {ms : List M} {F : List Addr} {k : Nat} {d : PyData}, RMs K H G xs ms F → ms[k]? = some (.fz d) → ∃ v, xs[k]? = some v ∧ RF K H G v d ∧ RMs K H G (xs.eraseIdx k) (ms.eraseIdx k) F
  | _, _, _, k, _, .nil, h => by simp at h
  | _, _, _, 0, d, .cons (v := v) r t, h => by
    simp at h; subst h
    cases r with
    | fz r => exact ⟨v, rfl, r, by simpa using t⟩
  | _, _, _, k + 1, d, .cons r t, h => by
    obtain ⟨v, e1, e2, e3⟩ := RMs.erase (k := k) t (by simpa using h)
    exact ⟨v, by simpa using e1, e2, by simpa using RMs.cons r e3⟩
open Classical in
theorem SI.pop_at {K : PySem.W.Frag} {Z : Addr → Prop} {O : List Addr} {env : Ev} {σ : L2.St} {H : Hp} {s k : Nat} {ms : List M} {d : PyData} (I : SI K Z O env σ H) (em : env[s]? = some (some (.lst ms))) (hm : ms[k]? = some (.fz d)) :
    ∃ a xs v, σ[s]? = some (some (.ref a)) ∧ H a = some (.lst xs) ∧ xs.length = ms.length ∧ xs[k]? = some v ∧ ∃ O2, SI K Z O2 (env.set s (some (.lst (ms.eraseIdx k)))) σ (upd H a (.lst (xs.eraseIdx k))) ∧ Step O H O2 [] (upd H a (.lst (xs.eraseIdx k))) ∧
      RF K (upd H a (.lst (xs.eraseIdx k))) (fun b => ¬ Z b ∧ b ∉ O2) v d := by
  obtain ⟨w, a, xs, ms0, Fr, ms', h1, wy, ha, aO, rms, ef, frO, nr, go⟩ := SI.wr (p := []) (f := fun l => if l = ms then some (ms.eraseIdx k) else none) (m' := .lst (ms.eraseIdx k)) (F := []) (by rw [Zp_nil]; exact I) em (by unfold M.wr; exact congrArg (Option.map M.lst) (if_pos rfl))
  split at ef
  case isFalse => cases ef
  rename_i e0
  cases ef
  subst e0
  cases wy
  obtain ⟨v, e1, r1, r2⟩ := (rms.imp (G' := fun a => ¬ Z a ∧ a ∉ O ∧ a ∉ ([] : List Addr)) fun a g => ⟨fun z => g.1 (.inl z), g.2, fun z => nomatch z⟩).erase hm
  obtain ⟨O2, I2, st2⟩ := go (O0 := O) (H0 := H) r2 nr (fun b hb => .inl hb) (fun _ z => nomatch z) Step.refl
  exact ⟨a, xs, v, h1, ha, rms.length, e1, O2, I2, st2, (r1.imp fun b g => ⟨g.1, g.2.1⟩).after I st2⟩
def dPop (s : Nat) (f : Ev → Res) : Ev → Res := fun env => if isLst env s = true then (match f env with
  | .ok (.own (.fz (.int i))) e1 _ => (match e1[s]? with
    | some (some (.lst ms)) => if -(2 ^ 63) ≤ i ∧ i < 2 ^ 63 then (match seqIndex? i ms.length with
      | some k => (match ms[k]? with
        | some (.fz d) => .ok (.own (.fz d)) (e1.set s (some (.lst (ms.eraseIdx k)))) .l
        | _ => .stuck)
      | none => .stuck) else .stuck
    | _ => .stuck)
  | .ok _ _ _ => .stuck
  | .exn c e => .exn c e
  | .stuck => .stuck) else .stuck
section
variable {X : Cx} {f : Ev → Res} {e : Expr} {px apos cpos : Pos}
theorem pop_ (s : Nat) {x : Str} (he : SE X f e) (hN : X.N[s]? = some x := by rfl) (hv : Vis X.env.scope x := by first | exact Or.inl rfl | exact Or.inr (Or.inl rfl) | exact Or.inr (Or.inr rfl)) (hd : (x == ("__debug__" : Str)) = false := by decide) (hcd : (x == ("__classdict__" : Str)) = false := by decide)
    (hbase : attributeBase (.Name x px) "pop" X.env (eval (.Name x px) X.env) = eval (.Name x px) X.env := by rfl)
    (hfew : ((backTo cpos (starEach [e] X.env)).all (fun x => !x.1) && (backToKw cpos (keywordEach [] X.env)).all (fun x => x.1.isSome)
      && decide ([e].length + ([] : List Keyword).length + (if ([] : List Keyword).isEmpty then 0 else 1) < 30)) = true := by rfl)
    (hline : (apos.endLine == cpos.line) = true := by rfl) (hs : starEach [e] X.env = (false, eval e X.env) :: starEach [] X.env := by rfl) (hplain : (backTo cpos (starEach ([] : List Expr) X.env)).any (·.1) = false := by rfl) :
    SE X (dPop s f) (.Call (.Attribute (.Name x px) "pop" apos) [e] [] cpos) := fun W tk => by
  refine PE.imp (pe_bm PySem.F.plainAttrs_list PySem.F.slot_list_pop PySem.F.type_list_pop mt_popAt (pe_var hN hv hd hcd) (pa_cons (he W tk) pa_nil hs) hbase hfew hline hs hplain) fun σ H Q ⟨Z, O, env, I, h⟩ => ?_
  unfold dPop at h
  by_cases hl : isLst env s = true
  case neg => rw [if_neg hl] at h; exact h.elim
  rw [if_pos hl] at h
  unfold isLst at hl
  split at hl
  case h_2 => cases hl
  rename_i ms0 em
  obtain ⟨w, F, h1, r, _⟩ := I.get em
  have rw0 : ∃ a xs, w = .ref a ∧ H a = some (.lst xs) := by
    cases r with
    | lst ha _ => exact ⟨_, _, rfl, ha⟩
  obtain ⟨a0, xs0, rfl, ha0⟩ := rw0
  refine ⟨.ref a0, h1, .inl ⟨rfl, xs0, .inl (.inl ha0)⟩, Z, O, env, I, ?_⟩
  cases ef : f env with
  | stuck => rw [ef] at h; exact h
  | exn c e1 => rw [ef] at h; exact h
  | ok y e1 q =>
    rw [ef] at h
    cases y with
    | vw m => exact h.elim
    | own m =>
      cases m with
      | fz d =>
        cases d with
        | int i =>
          simp only [] at h
          intro v H1 p1
          obtain ⟨O1, I1, r1, st1, _⟩ := p1.fz1
          cases r1.intI
          cases em1 : e1[s]? with
          | none => simp only [em1] at h
          | some y1 =>
            cases y1 with
            | none => simp only [em1] at h
            | some m1 =>
              cases m1 with
              | lst ms =>
                simp only [em1] at h
                by_cases hi : -(2 ^ 63) ≤ i ∧ i < 2 ^ 63
                case neg => rw [if_neg hi] at h; exact h.elim
                rw [if_pos hi] at h
                cases hk : seqIndex? i ms.length with
                | none => simp only [hk] at h
                | some k =>
                  simp only [hk] at h
                  cases hm : ms[k]? with
                  | none => simp only [hm] at h
                  | some mk =>
                    cases mk with
                    | fz d =>
                      simp only [hm] at h
                      obtain ⟨a, xs, v, h1', ha2, hlen, hx, O2, I2, st2, r2⟩ := SI.pop_at I1 em1 hm
                      rw [h1] at h1'; cases h1'
                      refine ⟨a0, xs, i, k, v, rfl, rfl, ha2, hi.1, hi.2, by rw [hlen]; exact hk, hx, h _ _ ⟨⟨O2, [], ?_⟩⟩⟩
                      exact ⟨by rw [Zp_nil]; exact I2, .own (.fz (r2.imp fun b g => ⟨g.1, g.2, fun z => nomatch z⟩)) .nil, List.Pairwise.nil, (fun _ z => nomatch z), st1.tr0 st2, (fun z => absurd rfl z), fun z => by cases z⟩
                    | lst _ => simp only [hm] at h
                    | tup _ => simp only [hm] at h
                    | dK _ _ => simp only [hm] at h
                    | dT _ _ => simp only [hm] at h
              | fz _ => simp only [em1] at h
              | tup _ => simp only [em1] at h
              | dK _ _ => simp only [em1] at h
              | dT _ _ => simp only [em1] at h
        | none => exact h.elim
        | bool _ => exact h.elim
        | str _ => exact h.elim
        | list _ => exact h.elim
        | tuple _ => exact h.elim
        | dict _ => exact h.elim
      | lst _ => exact h.elim
      | tup _ => exact h.elim
      | dK _ _ => exact h.elim
      | dT _ _ => exact h.elim
end

/-! ### sorted of a tuple of ints -/
theorem collect_tup {prog : Program} {w : World} {A : Around} {E : Value → Shared → Prop} {s : Shared} {l : Addr} {its : List Value} {Q : List Value → Shared → Prop} (hl : IsTup s.heap l its.toArray)
    (h : Q its { s with heap := (s.heap.push (seqObj "list" #[] 0)).update s.heap.objs.size (Obj.mapSeq (· ++ its.toArray)) }) (hsz : its.length ≤ sizeLine) :
    wpAny (model prog w) A (collect (.ref l)) Q E s := by
  obtain ⟨ob, hob, hcl, nn, hda⟩ := id hl
  unfold collect
  refine wpAny_bind (wpAny_runValue (codeAny_builtin entry_proto_collect' ?_))
  show wpAny _ _ (do again (.builtin "list.__iadd__" ⟨[← newList [], .ref l], []⟩)) _ _ s
  refine wpAny_bind (wpAny_newList (wpAny_pure ⟨Code.quiet_builtin _ (by decide +kernel), codeAny_builtin entry_list_iadd' ?_⟩))
  show wpAny _ _ (Builtin.List.listExtendWith (.ref s.heap.objs.size) (.ref l) (.ref s.heap.objs.size)) _ _ { s with heap := s.heap.push (seqObj "list" #[] 0) }
  unfold Builtin.List.listExtendWith
  have hob2 : (s.heap.push (seqObj "list" #[] 0)).get? l = some ob := Heap.get?_push_of_some _ hob
  refine wpAny_bind (wpAny_typeOf (T := "tuple") ⟨ob, hob2, hcl⟩ ?_)
  have ht : (Value.type "tuple" == Value.type "tuple") = true := by rfl
  rw [if_pos (by rw [ht]; simp)]
  refine wpAny_bind (listItems_at hob2 hda ?_)
  refine wpAny_bind (listItems_at (xs := #[]) (n := 0) (Heap.get?_push_size _ rfl) rfl ?_)
  rw [if_neg (by simp)]
  refine wpAny_bind (listUpdate_at (xs := #[]) (n := 0) (Heap.get?_push_size _ rfl) rfl ?_ (Nat.zero_le _) (by show (#[] ++ its.toArray).size ≤ sizeLine + 1; simp only [Array.size_append, List.size_toArray, List.length_nil]; omega))
  refine wpAny_pure ?_
  show wpAny (model prog w) A (do
      let o ← load s.heap.objs.size
      match o.data with
      | .seq ys _ => pure ys.toList
      | _ => unsupported "internal:collect") Q E { s with heap := (s.heap.push (seqObj "list" #[] 0)).update s.heap.objs.size (Obj.mapSeq (· ++ its.toArray)) }
  refine wpAny_bind (wpAny_load (get?_update_seq (Heap.get?_push_size _ rfl) _) ?_)
  show wpAny _ _ (pure ((#[] : Array Value) ++ its.toArray).toList) Q E _
  rw [show ((#[] : Array Value) ++ its.toArray).toList = its by simp]
  exact wpAny_pure h
theorem sorted_tupO {prog : Program} {w : World} {A : Around} {E : Value → Shared → Prop} {s : Shared} {l : Addr} {its : List Value} {ltv : Value → Value → Bool} {Q : Value → Shared → Prop} (sw : SrtO.Swo ltv) (hl : IsTup s.heap l its.toArray) (hz : its.length ≤ sizeLine)
    (hS : 2 ≤ its.length → ∀ (h₁ : Heap) (a : Addr), h₁.get? a = some (seqObj "list" its.toArray 0) → (∀ b o, s.heap.get? b = some o → b ≠ a ∧ h₁.get? b = some o) → SrtO.SortableO prog w A.in1.in1 { s with heap := h₁ } a its ltv)
    (h : ∀ out : List Value, SrtO.Srtd ltv out → SrtO.Stb ltv out its → Q (.ref (s.heap.objs.size + 1)) { s with heap := sortedAll s.heap its out.toArray }) :
    wpAny (model prog w) A (call (.builtin "sorted") [.ref l]) Q E s := by
  refine Calls.call_function_entry kind_sorted plain_sorted entry_sorted (args_sorted1 _) ?_
  unfold Builtin.«sorted»
  refine wpAny_bind (m := checkCount "sorted" 1 1 _) (wpAny_pure ?_)
  refine wpAny_bind (collect_tup hl ?_ hz)
  refine wpAny_bind (wpAny_newList ?_ hz)
  have hsz : ((s.heap.push (seqObj "list" #[] 0)).update s.heap.objs.size (Obj.mapSeq (· ++ its.toArray))).objs.size = s.heap.objs.size + 1 := by
    rw [Heap.size_update, size_push']
  have hoL : (((s.heap.push (seqObj "list" #[] 0)).update s.heap.objs.size (Obj.mapSeq (· ++ its.toArray))).push (seqObj "list" its.toArray 0)).get? (s.heap.objs.size + 1) = some (seqObj "list" its.toArray 0) := by
    rw [← hsz]; exact Heap.get?_push_size _ rfl
  have kept : ∀ b o, s.heap.get? b = some o → b ≠ s.heap.objs.size + 1 ∧ (((s.heap.push (seqObj "list" #[] 0)).update s.heap.objs.size (Obj.mapSeq (· ++ its.toArray))).push (seqObj "list" its.toArray 0)).get? b = some o := fun b o q => by
    have hlt : b < s.heap.objs.size := Heap.lt_size q
    refine ⟨Nat.ne_of_lt (Nat.lt_succ_of_lt hlt), Heap.get?_push_of_some _ ?_⟩
    rw [Heap.get?_update_ne _ _ _ _ (Nat.ne_of_lt hlt)]
    exact Heap.get?_push_of_some _ q
  show wpAny _ _ _ _ _ { s with heap := ((s.heap.push (seqObj "list" #[] 0)).update s.heap.objs.size (Obj.mapSeq (· ++ its.toArray))).push (seqObj "list" its.toArray 0) }
  rw [hsz]
  refine wpAny_bind (wpAny_holding (wpAny_call_entry slot_list_sort ⟨_, hoL, rfl⟩ entry_list_sort (SrtO.list_sort_ord sw hoL hz (fun h2 => hS h2 _ _ hoL kept) fun out hs hb => ⟨_, rfl, ?_⟩) (args_list_sort _)))
  exact wpAny_pure ⟨_, rfl, h out hs hb⟩
theorem cr_sortedTI {X : Cx} : CallR X (.builtin "sorted") (fun vs H Q => ∃ (a : Addr) (ns : List Int), vs = [V.ref a] ∧ SqT X.K H a (ns.map V.int) ∧
    ∀ (ns' : List Int) (p : Addr), ns'.Perm ns → ns'.Pairwise (· ≤ ·) → H p = none → Q (.ref p) (upd H p (.lst (ns'.map V.int)))) := by
  intro pins s σ H vs us Q I r h
  obtain ⟨a, ns, rfl, hs, q⟩ := h
  obtain ⟨its, rv, hl, hz⟩ := I.tuple hs
  rw [Vals.ref1 r]
  have hi := rv.ints
  refine sorted_tupO SrtO.swo_int hl (by rw [← rv.length]; exact hz) (fun h2 h₁ a' _ _ => SrtO.ints_sortable hi h2) fun out h1 h2 => ?_
  obtain ⟨k1, k2, k3⟩ := SrtO.ints_out hi h1 h2
  obtain ⟨ep, he'⟩ := PyProof.Rows.sortedAll_at s.heap its out.toArray
  have hlen : ((out.map SrtO.iv).map V.int).length ≤ sizeLine := by
    rw [List.length_map, k2.length_eq]
    rw [List.length_map] at hz
    exact hz
  exact ⟨.ref _, upd H (s.heap.objs.size + 1) (.lst ((out.map SrtO.iv).map V.int)), I.laid (t' := s.toks) (fun _ _ => PyProof.Rows.sortedAll_old) (Nat.le_succ _) ⟨hlen, out, ep, vals_of_ints k1, he'⟩, rfl, q _ _ k2 k3 (I.hok.fresh (Nat.le_succ _))⟩
def kSortT : List Val → Option (Val × Bool)
  | [x] => (tv x).bind fun ds => (intsD ds).map fun ns => (.own (.lst ((sortI ns).map fun n => .fz (.int n))), true)
  | _ => none
theorem callv_sortT {X : Cx} : CallV X (.builtin "sorted") kSortT := by
  refine ⟨_, cr_sortedTI, fun Z O env env' σ H H' vs xs z b q Q pl he kk => ?_⟩
  unfold kSortT at he
  split at he
  case h_2 => cases he
  rename_i x
  obtain ⟨ds, ea, he⟩ := Option.bind_eq_some_iff.mp he
  obtain ⟨ns, eb, e2⟩ := Option.map_eq_some_iff.mp he
  cases e2
  have hl := pl.len
  obtain ⟨O', F, pa⟩ := id pl.ex
  match vs, hl, pl, pa with
  | [v], _, pl, pa =>
    obtain ⟨a, ws, rfl, h2, h3⟩ := pa.2.1.tv ea
    refine ⟨a, ns, rfl, by rw [← h3.intsD eb]; exact h2.t, fun ns' p hp hs hn => ?_⟩
    have e : ns' = sortI ns := srt_uniq leI_anti (hp.trans (srtB_perm leI ns).symm) (hs.imp fun h => decide_eq_true h) (srtB_srt leI_tot leI_tr ns)
    rw [e]
    exact kk _ _ (pa.newL (rms_ints _) (List.nil_sublist _) hn)
def kSortA (xs : List Val) : Option (Val × Bool) := (kSort xs).orElse fun _ => kSortT xs
theorem callv_sortA {X : Cx} : CallV X (.builtin "sorted") kSortA := callv_sort.or callv_sortT
theorem ksortA_T {ns : List Int} : kSortA [.own (.fz (.tuple (ns.map .int)))] = some (.own (.lst ((sortI ns).map fun n => .fz (.int n))), true) := by
  simp only [kSortA, kSort, kSortI, kSortP, kSortT, lv, tv, Option.bind_none, Option.bind_some, intsD_map, Option.map_some, Option.orElse]
theorem ksortA_of {x : Val} {y : Val × Bool} (h : kSort [x] = some y) : kSortA [x] = some y := by simp only [kSortA, h, Option.orElse]
end Q

set_option Elab.async false
set_option linter.all false
set_option maxRecDepth 100000
set_option maxHeartbeats 4000000
/-! x[e], x an owned list, e with draws in it; what is left to other ways. -/
namespace Q
open PySem PySem.Spec PyProof.Rows L2
def dIxO (s : Nat) (f : Ev → Res) : Ev → Res := fun env => if isLst env s = true then (match f env with
  | .ok (.own (.fz (.int i))) e1 q => (match e1[s]? with
    | some (some (.lst ms)) => (match atI ms i with
      | some (.fz d) => .ok (.own (.fz d)) e1 q
      | _ => .stuck)
    | _ => .stuck)
  | .ok _ _ _ => .stuck
  | .exn c e => .exn c e
  | .stuck => .stuck) else .stuck
section
variable {X : Cx} {f : Ev → Res} {e : Expr} {px pos : Pos}
theorem ixO_ (s : Nat) {x : Str} (he : SE X f e) (hs : PlainIx e := by exact fun _ _ => rfl) (hN : X.N[s]? = some x := by rfl) (hv : Vis X.env.scope x := by first | exact Or.inl rfl | exact Or.inr (Or.inl rfl) | exact Or.inr (Or.inr rfl)) (hd : (x == ("__debug__" : Str)) = false := by decide) (hcd : (x == ("__classdict__" : Str)) = false := by decide) :
    SE X (dIxO s f) (.Subscript (.Name x px) e pos) := fun W tk => by
  refine PE.imp (pe_ix ix_seq (pe_var hN hv hd hcd) (he W tk) hs) fun σ H Q ⟨Z, O, env, I, h⟩ => ?_
  unfold dIxO at h
  by_cases hl : isLst env s = true
  case neg => rw [if_neg hl] at h; exact h.elim
  rw [if_pos hl] at h
  unfold isLst at hl
  split at hl
  case h_2 => cases hl
  rename_i ms0 em
  obtain ⟨w, F, h1, r, _⟩ := I.get em
  have rw0 : ∃ a xs, w = .ref a ∧ H a = some (.lst xs) := by
    cases r with
    | lst ha _ => exact ⟨_, _, rfl, ha⟩
  obtain ⟨a0, xs0, rfl, ha0⟩ := rw0
  refine ⟨.ref a0, h1, Z, O, env, I, ?_⟩
  cases ef : f env with
  | stuck => rw [ef] at h; exact h
  | exn c e1 => rw [ef] at h; exact h
  | ok y e1 q =>
    rw [ef] at h
    cases y with
    | vw m => exact h.elim
    | own m =>
      cases m with
      | fz d =>
        cases d with
        | int i =>
          simp only [] at h
          intro v H1 p1
          obtain ⟨O', F', pa⟩ := p1.ex
          cases pa.2.1.fz1.intI
          cases em1 : e1[s]? with
          | none => simp only [em1] at h
          | some y1 =>
            cases y1 with
            | none => simp only [em1] at h
            | some m1 =>
              cases m1 with
              | lst ms =>
                simp only [em1] at h
                cases ea : atI ms i with
                | none => simp only [ea] at h
                | some mk =>
                  cases mk with
                  | fz d =>
                    simp only [ea] at h
                    obtain ⟨w1, F1, hw1, rm1, _⟩ := pa.1.get em1
                    rw [h1] at hw1; cases hw1
                    cases rm1 with
                    | lst ha1 rms1 =>
                      rename_i xs1 F0 _
                      obtain ⟨j, z, j1, j2, j3⟩ := atI_at rms1.length ea
                      obtain ⟨z', Fa, Fi, Fb, k1, _, k2, _⟩ := rms1.at j1
                      rw [j2] at k1; cases k1
                      exact .inl ⟨a0, xs1, i, z, rfl, rfl, .inl (.inl ha1), j3, h _ _ (pa.keepF (k2.fzD.1.imp fun b g => ⟨fun y => g.1 (.inl y), g.2, fun y => g.1 (.inr y)⟩))⟩
                  | lst _ => simp only [ea] at h
                  | tup _ => simp only [ea] at h
                  | dK _ _ => simp only [ea] at h
                  | dT _ _ => simp only [ea] at h
              | fz _ => simp only [em1] at h
              | tup _ => simp only [em1] at h
              | dK _ _ => simp only [em1] at h
              | dT _ _ => simp only [em1] at h
        | none => exact h.elim
        | bool _ => exact h.elim
        | str _ => exact h.elim
        | list _ => exact h.elim
        | tuple _ => exact h.elim
        | dict _ => exact h.elim
      | lst _ => exact h.elim
      | tup _ => exact h.elim
      | dK _ _ => exact h.elim
      | dT _ _ => exact h.elim
/-- a statement that is never reached -/
def dStk : Ev → Out := fun _ => .stuck
theorem ss_stk {io : Nat → Bool} {st : Stmt} : SS X io dStk st := fun W tk => ⟨fun pins s σ H D I ⟨Z, O, env, I2, h⟩ => h.elim⟩
end
end Q

set_option Elab.async false
set_option linter.all false
set_option maxRecDepth 100000
set_option maxHeartbeats 4000000
/-! tuple * 1 is the tuple. -/
namespace Q
open PySem PySem.Spec PyProof.Rows L2
theorem tuple_mul1 (l : Addr) (items : Array Value) (n : Nat) (dd : Option Addr) (sl : Array (Option Value)) (x : Int) (u : Tok) (hx : x = 1) :
    Meets (Builtin.«tuple.__mul__» ⟨[.ref l, .int x u], []⟩) (fun _ R s => s.heap.get? l = some { cls := .type "tuple", dict := dd, data := .seq items n, slots := sl } ∧
      R (.ok (.ret (Value.ref l))) s) :=
  .of_wp fun prog w A R s h => by
    obtain ⟨hp, g, d, tk, os⟩ := s
    obtain ⟨hl, h⟩ := h
    have f1 := AutoSeq1.idx_int
    have c0 : (decide (x < -(2 ^ 63)) || decide (x ≥ 2 ^ 63)) = false := by rw [decide_eq_false (by omega), decide_eq_false (by omega)] <;> rfl
    have c1 : (items.isEmpty || x == 1) = true := by rw [hx]; simp
    wp_walk using wpAny_loadPart' hl
    repeat (first
      | (refine wpAny_ite_false (decide_eq_false (by rw [c0]; exact Bool.false_ne_true)) ?_; wp_walk using wpAny_loadPart' hl)
      | (refine wpAny_ite_true (decide_eq_true c1) ?_; wp_walk using wpAny_loadPart' hl))
    all_goals first
      | exact ⟨_, rfl, h⟩
      | skip
def rRep1 (K : PySem.W.Frag) : R2 := fun x y H Q => ∃ l xs, x = .ref l ∧ y = .int 1 ∧ SqT K H l xs ∧ Q (.ref l) H
section
variable {X : Cx}
theorem op_rep1 : OpR X (binaryOp .Mult) (rRep1 X.K) := by
  intro pins s σ H x y v u Q I rx ry h
  obtain ⟨l, xs, rfl, rfl, hT, q⟩ := h
  cases rx
  obtain ⟨t, rfl⟩ := ry
  obtain ⟨its, r, ⟨⟨cls, dd, data, sl⟩, ho, hc, n, hd⟩, hs⟩ := I.tuple hT
  simp only at hc hd
  subst hc hd
  refine wpAny_binaryOp_repeat_ref (T := "tuple") (U := "int") (by decide) ⟨_, ho, rfl⟩ (fun s' => typeIs_int s' 1 t) L2.noFill_tuple_mul F.fills_int_mul F.slot_int_rmul L2.repeat_tuple F.slot_int_index.lookup
    (call_meets F.slot_int_rmul (typeIs_int s 1 t) F.entry_int_rmul (F.args_int_rmul_2 _ _) (L2.int_rmul_tuple 1 t l its.toArray n dd sl)
      ⟨ho, rfl, ⟨_, ho, rfl⟩, call_meets F.slot_tuple_mul ⟨_, ho, rfl⟩ F.entry_tuple_mul (F.args_tuple_mul_2 _ _) (tuple_mul1 l its.toArray n dd sl 1 t rfl) ⟨ho, ?_⟩⟩)
  exact ⟨.ref _, _, I, rfl, q⟩
def kMul1 : List Val → Option (Val × Bool)
  | [x, .own (.fz (.int k))] => if k = 1 then (tv x).map fun a => (.own (.fz (.tuple a)), true) else none
  | _ => none
theorem opv_mul1 : OpV X (binaryOp .Mult) kMul1 := by
  refine ⟨_, op_rep1, fun Z O env env' σ H H' v w x y z b q Q pl he kk => ?_⟩
  unfold kMul1 at he
  split at he
  · rename_i heq
    cases heq
    split at he
    · rename_i hc
      subst hc
      obtain ⟨da, ea, he⟩ := Option.map_eq_some_iff.mp he
      cases he
      obtain ⟨O', F, pa⟩ := pl.ex
      obtain ⟨a, ws, rfl, h1, r1⟩ := pa.2.1.tv ea
      exact ⟨a, ws, rfl, second_int pl, h1.t, kk _ _ (Post.wn (pa.keepF (.tup h1 r1)))⟩
    · cases he
  · cases he
def kMulA (xs : List Val) : Option (Val × Bool) := (kMul xs).orElse fun _ => kMul1 xs
theorem opv_mulA : OpV X (binaryOp .Mult) kMulA := opv_mul.or opv_mul1
variable {io : Nat → Bool} {f g : Ev → Res} {a b : Expr} {pos : Pos}
theorem e_mulA (ha : SE X f a) (hb : SE X g b) : SE X (dG kMulA [f, g]) (.BinOp a .Mult b pos) := se_binV opv_mulA ha hb
end
end Q

set_option Elab.async false
set_option linter.all false
set_option maxRecDepth 100000
set_option maxHeartbeats 4000000
/-! t.index(x), t a tuple or a list. -/
namespace Q
open PySem PySem.Spec PyProof.Rows L2
/-! ### a method of a tuple -/
theorem tyN_is {X : Cx} {pins : List (Addr × Obj)} {σ : L2.St} {HH : Hp} {st : Shared} {p : Addr} {xs : List V} (Inn : Inv X pins σ HH st) (h : SqN X.K HH p xs) :
    st.TypeIs (.ref p) "tuple" ∧ ∀ a, Value.ref p = .ref a → ∃ ob, st.heap.get? a = some ob ∧ ob.dict = none := by
  obtain ⟨jts, _, tp, _⟩ := Inn.tuple h.t
  refine ⟨tp.typeIs, fun a e => ?_⟩
  cases e
  rcases h with ⟨o, h, hd⟩ | ⟨o, _, _, h, _, _, _, _, hd⟩
  · exact ⟨o, (Inn.hok p _ h).1, hd⟩
  · exact ⟨o, Inn.kIn p o h, hd⟩
section
variable {X : Cx} {o e : Expr} {es : List Expr} {to : TE} {t : TA} {name : Str} {apos cpos : Pos} {id : String} {r : V → List V → Hp → VK → Prop}
def tBMT (K : PySem.W.Frag) (r : V → List V → Hp → VK → Prop) (to : TE) (t : TA) : TE := fun σ H Q => to σ H fun x H1 => (∃ p xs, x = .ref p ∧ SqN K H1 p xs) ∧ t σ H1 fun xs H2 => r x xs H2 Q
theorem pe_bmT (slot : Slot "tuple" name id) (hty : typeOf (.builtin id) = pure (.type "method_descriptor")) (hm : MtR X id r) (ho : PE X o to) (ha : PA X (e :: es) t)
    (hbase : attributeBase o name X.env (eval o X.env) = eval o X.env := by rfl)
    (few : ((backTo cpos (starEach (e :: es) X.env)).all (fun x => !x.1) && (backToKw cpos (keywordEach [] X.env)).all (fun x => x.1.isSome) && decide ((e :: es).length + ([] : List Keyword).length + (if ([] : List Keyword).isEmpty then 0 else 1) < 30)) = true := by rfl)
    (hline : (apos.endLine == cpos.line) = true := by rfl) (hs : starEach (e :: es) X.env = (false, eval e X.env) :: starEach es X.env := by rfl) (pln : (backTo cpos (starEach es X.env)).any (·.1) = false := by rfl) :
    PE X (.Call (.Attribute o name apos) (e :: es) [] cpos) (tBMT X.K r to t) := ⟨fun pins st ϱ HH QQ Inn h => by
  refine wpAny_Call_method_late hbase few hline rfl (thn (ho.run pins st ϱ HH _ Inn h) fun v s1 ⟨x, H1, I1, r1, ⟨p, ys, ex, hN⟩, q1⟩ => ?_)
  subst ex
  cases r1
  obtain ⟨h1, h2⟩ := tyN_is I1 hN
  refine ⟨"tuple", id, PySem.F.plainAttrs_tuple, slot, hty, h1, h2, ?_⟩
  have args := ha.run cpos pins s1 ϱ H1 _ I1 q1
  rw [hs] at args ⊢
  refine Calls.callWith_builtin (by show (false || (backTo cpos (starEach es X.env)).any (·.1)) = false; rw [pln] <;> rfl) (Calls.evalArgs_plain ?_)
  exact thn args fun us s2 ⟨vs, H2, I2, r2, q2⟩ => hm pins s2 ϱ H2 _ vs _ us QQ I2 (show RelV (.ref p) (.ref p) from rfl) r2 q2⟩
end
def tpV : Val → Bool
  | .own (.fz (.tuple _)) => true
  | _ => false
def tpR : Res → Bool
  | .ok x _ _ => tpV x
  | _ => true
/-- t.m(x), t a tuple -/
def dMtT (k : List Val → Option (Val × Bool)) (f g : Ev → Res) : Ev → Res := fun env => if tpR (f env) = true then dG k [f, g] env else .stuck
theorem tpV_ref {K : PySem.W.Frag} {H : Hp} {G Gv : Addr → Prop} {F : List Addr} {v : V} {x : Val} (r : RVs K H G Gv [v] [x] F) (h : tpV x = true) : ∃ a ws, v = .ref a ∧ SqN K H a ws := by
  unfold tpV at h
  split at h
  · cases r.fz1 with
    | tup hq rs => exact ⟨_, _, rfl, hq⟩
  · cases h
theorem tu_mtT {K : PySem.W.Frag} {mg : Str → Option Value} {W : WX} {k : List Val → Option (Val × Bool)} {f g : Ev → Res} {σ : L2.St} {H : Hp} {Q : VK} {R : List V → Hp → Prop} (h : TU K mg W (dMtT k f g) σ H Q)
    (c : ∀ Z O env env' q x y z b, SI K Z O env σ H → k [x, y] = some (z, b) → ∀ vs H', PostL K Z O env σ H vs H' [x, y] env' q → (∀ v'' H'', Post K Z O env σ H v'' H'' z env' (q.f b) → Q v'' H'') → R vs H') :
    TU K mg W f σ H fun v H1 => (∃ a ws, v = .ref a ∧ SqN K H1 a ws) ∧ TUL K mg W (evs [g]) σ H1 fun ws H2 => R (v :: ws) H2 := by
  obtain ⟨Z, O, env, I, h⟩ := h
  refine ⟨Z, O, env, I, ?_⟩
  unfold dMtT at h
  by_cases hl : tpR (f env) = true
  case neg => rw [if_neg hl] at h; exact h.elim
  rw [if_pos hl] at h
  unfold dG evs at h
  cases ef : f env with
  | stuck => rw [ef] at h; exact h
  | exn cc env1 => rw [ef] at h; exact h
  | ok x env1 q1 =>
    rw [ef] at h hl
    intro v H1 p1
    obtain ⟨O1, F1, I1, r1, nd1, nz1, st1, _⟩ := p1.ex
    refine ⟨tpV_ref r1 hl, ?_⟩
    cases er : evs [g] env1 with
    | stuck => simp only [er] at h
    | exn cc env2 =>
      simp only [er] at h
      refine ⟨Zp Z F1, O1, env1, I1, ?_⟩
      rw [er]
      exact fun cls d H' px => h cls d H' (PostX.after (v := v) (x := x) (q1 := q1) st1 px)
    | ok ys env2 q2 =>
      simp only [er] at h
      obtain ⟨O1', F1', I1', kk⟩ := PostL.cons (q2 := q2) p1
      refine ⟨Zp Z F1', O1', env1, I1', ?_⟩
      rw [er]
      intro vs H2 p2
      have hlen := evs_len er
      match ys, hlen, er, p2, h with
      | [y], _, er, p2, h =>
        have go : ∀ (hv : x.isV = true → q2 ≠ .l), (match k [x, y] with
            | some (z, b) => Res.ok z env2 ((q1.j q2).f b)
            | none => Res.stuck) = (match k [x, y] with
            | some (z, b) => Res.ok z env2 ((q1.j q2).f b)
            | none => Res.stuck) → (match (match k [x, y] with
            | some (z, b) => Res.ok z env2 ((q1.j q2).f b)
            | none => Res.stuck) with
            | .ok z env' q => ∀ v H', Post K Z O env σ H v H' z env' q → Q v H'
            | .exn c env' => ∀ cls d H', PostX K mg Z O σ H cls d H' c env' → W cls d σ H'
            | .stuck => False) → R (v :: vs) H2 := fun hv _ h => by
          cases ek : k [x, y] with
          | none => rw [ek] at h; exact h.elim
          | some zb =>
            obtain ⟨z, b⟩ := zb
            rw [ek] at h
            exact c Z O env env2 (q1.j q2) x y z b I ek _ _ (kk p2 hv) h
        cases x with
        | own m => exact go (fun z => nomatch z) rfl h
        | vw m =>
          cases q2 with
          | l => exact h.elim
          | p => exact go (fun _ z => nomatch z) rfl h
          | q => exact go (fun _ z => nomatch z) rfl h
section
variable {X : Cx} {f g : Ev → Res} {e a : Expr} {apos cpos : Pos} {k : List Val → Option (Val × Bool)} {mn : Str} {id : String}
theorem se_mtT (sl : Slot "tuple" mn id) (ty : typeOf (.builtin id) = pure (.type "method_descriptor")) (hm : MtV X id k) (ha : SE X f a) (hb : SE X g e)
    (hbase : attributeBase a mn X.env (eval a X.env) = eval a X.env := by rfl)
    (few : ((backTo cpos (starEach [e] X.env)).all (fun x => !x.1) && (backToKw cpos (keywordEach [] X.env)).all (fun x => x.1.isSome) && decide ([e].length + ([] : List Keyword).length + (if ([] : List Keyword).isEmpty then 0 else 1) < 30)) = true := by rfl)
    (hline : (apos.endLine == cpos.line) = true := by rfl) (hs : starEach [e] X.env = (false, eval e X.env) :: starEach [] X.env := by rfl) (pln : (backTo cpos (starEach ([] : List Expr) X.env)).any (·.1) = false := by rfl) :
    SE X (dMtT k f g) (.Call (.Attribute a mn apos) [e] [] cpos) := fun W tk => by
  obtain ⟨r, h1, h2⟩ := hm
  refine PE.imp (pe_bmT sl ty h1 (ha W tk) (sa_cons hb sa_nil hs W tk) hbase few hline hs pln) fun σ H Q h => ?_
  have h3 := tu_mtT (R := fun vs H' => ∀ v w, vs = [v, w] → r v [w] H' Q) h fun Z O env env' q x y z b I hk vs H' pl kk v w ev => by
    subst ev
    exact h2 Z O env env' σ H H' v w x y z b q Q pl hk kk
  obtain ⟨Z, O, env, I, h3⟩ := h3
  refine ⟨Z, O, env, I, ?_⟩
  cases ef : f env with
  | stuck => rw [ef] at h3; exact h3
  | exn c e1 => rw [ef] at h3; exact h3
  | ok x e1 q =>
    rw [ef] at h3
    intro v H1 p1
    obtain ⟨⟨p, ws, ev, hq⟩, h4⟩ := h3 v H1 p1
    subst ev
    refine ⟨⟨p, ws, rfl, hq⟩, ?_⟩
    obtain ⟨Z2, O2, env2, I2, h4⟩ := h4
    refine ⟨Z2, O2, env2, I2, ?_⟩
    cases eg : evs [g] env2 with
    | stuck => rw [eg] at h4; exact h4
    | exn c e1 => rw [eg] at h4; exact h4
    | ok ys e3 q3 =>
      rw [eg] at h4
      intro us H2 p2
      obtain ⟨O3, F3, _, rr, _⟩ := p2.ex
      have hlen := (RVs.length rr).trans (evs_len eg)
      match us, hlen with
      | [u], _ => exact h4 [u] H2 p2 _ _ rfl
end
/-! ### index -/
theorem flat_ints (ns : List Int) : (ns.map V.int).all flatV = true := by
  rw [List.all_map]
  exact List.all_eq_true.mpr fun _ _ => rfl
theorem mt_tindex {X : Cx} : MtR X "tuple.index" (fun x xs H Q => ∃ p, ∃ ns : List Int, ∃ z j, x = .ref p ∧ xs = [.int z] ∧ SqT X.K H p (ns.map V.int) ∧ ns[j]? = some z ∧ (∀ m, m < j → ns[m]? ≠ some z) ∧ Q (.int (j : Nat)) H) := by
  intro pins st σ HH x xs v us QQ Inn rx rs h
  obtain ⟨p, ns, z, j, rfl, rfl, hq, hy, hno, q⟩ := h
  cases rx
  obtain ⟨u, rfl, t, rfl⟩ := vals1 rs
  obtain ⟨jts, r, ⟨⟨cls, dd, dt, sl⟩, ho, hc, n, hd⟩, hz⟩ := Inn.tuple hq
  simp only at hc hd
  subst hc hd
  have hl : jts.toArray.size = ns.length := by rw [List.size_toArray, ← r.length, List.length_map]
  have hj : j < jts.toArray.size := by rw [hl]; exact (List.getElem?_eq_some_iff.mp hy).1
  have each : ∀ (m : Nat) (hm : m < jts.toArray.size), ∃ y t', ns[m]? = some y ∧ jts.toArray[m] = Value.int y t' := fun m hm => by
    have hm' : m < ns.length := by omega
    obtain ⟨w, hw, t', hw'⟩ := r.get (i := m) (x := .int ns[m]) (by simp [hm'])
    refine ⟨ns[m], t', List.getElem?_eq_getElem hm', ?_⟩
    rw [← hw', ← (List.getElem?_eq_some_iff.mp hw).2]
    simp
  refine call_meets PySem.F.slot_tuple_index ⟨_, ho, rfl⟩ PySem.F.entry_tuple_index (PySem.F.args_tuple_index_2 _ _) (TI.tuple_indexAt p jts.toArray n dd sl (.int z t) (eqU (.int z)) j hj ?_ ?_)
    ⟨ho, fun w hw => mem_eqAt (x := .int z) ⟨t, rfl⟩ rfl r (flat_ints ns) w (by simpa using hw), ⟨.int (j : Nat), HH, Inn.tok _, ⟨_, rfl⟩, q⟩⟩
  · obtain ⟨y, t', h1, h2⟩ := each j hj
    rw [hy] at h1
    cases h1
    rw [h2]
    show eqV (.int z) (.int z) = true
    simp [eqV]
  · intro m hm hmj
    obtain ⟨y, t', h1, h2⟩ := each m hm
    rw [h2]
    show eqV (.int y) (.int z) = false
    have : y ≠ z := fun e => hno m hmj (e ▸ h1)
    simp [eqV, this]
def kTIndex : List Val → Option (Val × Bool)
  | [x, y] => (tv x).bind fun ds => (intsD ds).bind fun ns => match valD y with
    | some (.int z) => (ns.findIdx? fun y => decide (y = z)).map fun j => (.own (.fz (.int (j : Nat))), false)
    | _ => none
  | _ => none
theorem mtv_tindex {X : Cx} : MtV X "tuple.index" kTIndex := by
  refine ⟨_, mt_tindex, fun Z O env env' σ H H' v w x y z b q Q pl he kk => ?_⟩
  unfold kTIndex at he
  obtain ⟨ds, ea, he⟩ := Option.bind_eq_some_iff.mp he
  obtain ⟨ns, eb, he⟩ := Option.bind_eq_some_iff.mp he
  split at he
  case h_2 => cases he
  rename_i k ek
  obtain ⟨j, ej, e2⟩ := Option.map_eq_some_iff.mp he
  cases e2
  obtain ⟨O', F, pa⟩ := pl.ex
  obtain ⟨a, ws, rfl, h1, r1⟩ := pa.2.1.tv ea
  obtain ⟨F', rt, _⟩ := pa.2.1.tail
  have rd : RFs X.K H' Top [w] [.int k] := rt.data (by simp [valDs, ek])
  cases rd with
  | cons r0 _ =>
    cases r0.intI
    obtain ⟨hj, e3, e4⟩ := List.findIdx?_eq_some_iff_getElem.mp ej
    refine ⟨a, ns, k, j, rfl, rfl, by rw [← RFs.intsD r1 eb]; exact h1.t, ?_, fun m hm hz => ?_, kk _ _ (pl.plain fun G => .int _)⟩
    · rw [List.getElem?_eq_getElem hj, of_decide_eq_true e3]
    · obtain ⟨hm2, e5⟩ := List.getElem?_eq_some_iff.mp hz
      exact e4 m hm (decide_eq_true e5)
/-- x.index(y), x a list or a tuple -/
def dIdx (f g : Ev → Res) : Ev → Res := fun env => if lsR (f env) = true then dMt kLIndex f g env else dMtT kTIndex f g env
theorem se_alt {X : Cx} {c : Ev → Bool} {d1 d2 : Ev → Res} {e : Expr} (h1 : SE X d1 e) (h2 : SE X d2 e) : SE X (fun env => if c env = true then d1 env else d2 env) e := fun W tk => ⟨fun pins st ϱ HH QQ Inn ⟨Z, O, env, I, h⟩ => by
  by_cases hc : c env = true
  · rw [show (fun env => if c env = true then d1 env else d2 env) env = d1 env from if_pos hc] at h
    exact (h1 W tk).run pins st ϱ HH QQ Inn ⟨Z, O, env, I, h⟩
  · rw [show (fun env => if c env = true then d1 env else d2 env) env = d2 env from if_neg hc] at h
    exact (h2 W tk).run pins st ϱ HH QQ Inn ⟨Z, O, env, I, h⟩⟩
theorem idx_ {X : Cx} {f g : Ev → Res} {e a : Expr} {apos cpos : Pos} (hu : X.A.units + 65 < cLine) (ha : SE X f a) (hb : SE X g e)
    (hbase : attributeBase a "index" X.env (eval a X.env) = eval a X.env := by rfl)
    (few : ((backTo cpos (starEach [e] X.env)).all (fun x => !x.1) && (backToKw cpos (keywordEach [] X.env)).all (fun x => x.1.isSome) && decide ([e].length + ([] : List Keyword).length + (if ([] : List Keyword).isEmpty then 0 else 1) < 30)) = true := by rfl)
    (hline : (apos.endLine == cpos.line) = true := by rfl) (hs : starEach [e] X.env = (false, eval e X.env) :: starEach [] X.env := by rfl) (pln : (backTo cpos (starEach ([] : List Expr) X.env)).any (·.1) = false := by rfl) :
    SE X (dIdx f g) (.Call (.Attribute a "index" apos) [e] [] cpos) := se_alt (lindex_ hu ha hb hbase few hline hs pln) (se_mtT PySem.F.slot_tuple_index PySem.F.type_tuple_index mtv_tindex ha hb hbase few hline hs pln)
end Q

set_option Elab.async false
set_option linter.all false
set_option maxRecDepth 100000
set_option maxHeartbeats 4000000
set_option exponentiation.threshold 1000
/-! Plain lemmas for many laws: lists of numbers, orders, draws (no program in sight). -/
namespace Q
open PySem PySem.Spec PyProof.Rows L2
theorem nodup_len : ∀ {n : Nat} {w : List Nat}, w.Nodup → (∀ x ∈ w, x < n) → w.length ≤ n
  | 0, w, _, lt => by
    cases w with
    | nil => simp
    | cons a w => have := lt a List.mem_cons_self; omega
  | n + 1, w, nd, lt => by
    by_cases h : n ∈ w
    · have e := List.length_erase_of_mem h
      have := nodup_len (n := n) (w := w.erase n) (nd.erase n) fun x hx => by
        have h1 := lt x (List.mem_of_mem_erase hx)
        have h2 : x ≠ n := fun z => by
          rw [z] at hx
          exact (nd.not_mem_erase) hx
        omega
      omega
    · have := nodup_len (n := n) (w := w) nd fun x hx => by
        have h1 := lt x hx
        have h2 : x ≠ n := fun z => h (z ▸ hx)
        omega
      omega
theorem last_get {w : List Nat} (h : w ≠ []) : w.getLastD 0 = w.getD (w.length - 1) 0 := by
  cases w with
  | nil => exact absurd rfl h
  | cons a w =>
    have e : (a :: w).getLastD 0 = (a :: w).getLast h := by rw [List.getLastD_eq_getLast?, List.getLast?_eq_some_getLast h]; rfl
    rw [e, List.getLast_eq_getElem]
    simp
theorem idx_get {w : List Nat} {x : Nat} (h : x ∈ w) : w.getD (w.idxOf x) 0 = x := by
  have hi := List.idxOf_lt_length_of_mem h
  have e := List.getElem_idxOf hi
  have : w.getD (w.idxOf x) 0 = w[w.idxOf x] := by simp only [List.getD_eq_getElem?_getD, List.getElem?_eq_getElem hi, Option.getD_some]
  rw [this, e]
section
variable {f : Nat → Nat} {n : Nat} {r : List Nat}
theorem get_mem {j : Nat} (h : j < r.length) : r.getD j 0 ∈ r := by
  have : r.getD j 0 = r[j] := by simp [h]
  rw [this]
  exact List.getElem_mem h
end
def gD (rn : List (List Nat)) : PyData := .tuple (rn.map fun r => .tuple (natsD r))
def up (l : List Nat) : List Int := l.map fun x : Nat => (x : Int)
theorem down {l : List Int} (h : ∀ x ∈ l, 0 ≤ x) : up (l.map Int.toNat) = l := by
  unfold up
  rw [List.map_map]
  refine (List.map_congr_left fun x hx => ?_).trans (List.map_id l)
  show ((x.toNat : Nat) : Int) = x
  rw [Int.toNat_of_nonneg (h x hx)]
theorem up_mem {l : List Nat} {x : Nat} (h : x ∈ l) : (x : Int) ∈ up l := List.mem_map.mpr ⟨x, h, rfl⟩
theorem ix_gD {rn : List (List Nat)} {i : Nat} (h : i < rn.length) : ixV (.own (.fz (gD rn))) (i : Int) = some (.own (.fz (.tuple (natsD (rn.getD i []))))) := by
  show (atI (rn.map fun r => PyData.tuple (natsD r)) (i : Int)).map _ = _
  unfold atI
  rw [List.length_map, ixN_of h]
  simp [h]
theorem yq_lenG {rn : List (List Nat)} {f : Ev → Res} {env : Ev} (h : YQ f env (.own (.fz (gD rn)))) : YQ (dG kLen [f]) env (.own (.fz (.int (rn.length : Nat)))) := yq_len h (by simp [gD, lenV])
abbrev gM (rn : List (List Nat)) : Option M := some (.fz (gD rn))
abbrev lM (os : List Nat) : Option M := some (.fz (.list (natsD os)))
abbrev tM (os : List Nat) : Option M := some (.fz (.tuple (natsD os)))
abbrev nM (i : Nat) : Option M := some (.fz (.int (i : Nat)))
theorem sh_shaped {k : Nat} {d : PyData} (h : Sh k d) (hk : k ≤ 64) : SeqAt.shaped d = true := by
  unfold SeqAt.shaped
  rw [Bool.and_eq_true]
  exact ⟨h.1, decide_eq_true (Nat.le_trans h.2 hk)⟩
theorem eqv_int (a b : Int) : PyData.eqv (.int a) (.int b) = decide (a = b) := by
  simp [PyData.eqv]
  rfl
theorem sum_cast (l : List Nat) : (l.map fun x : Nat => (x : Int)).sum = (l.sum : Nat) := by
  induction l with
  | nil => rfl
  | cons a l ih => rw [List.map_cons, List.sum_cons, List.sum_cons, ih]; simp
theorem sh_natsL (l : List Nat) : Sh 1 (.list (natsD l)) := sh_lst (k := 0) fun x hx => by
  obtain ⟨i, _, rfl⟩ := List.mem_map.mp hx
  exact sh_int
section
variable {f g : Ev → Res} {env : Ev} {x : Val} {l : List Nat} {j k : Nat}
theorem yq_indexN (h : YQ f env x) (hx : lv x = some (natsD l)) (hv : lsV x = true) (hg : YQ g env (.own (.fz (.int (k : Nat))))) (hj : j < l.length) (h1 : l.getD j 0 = k) (h2 : ∀ i, i < j → l.getD i 0 ≠ k) : YQ (dMt kLIndex f g) env (.own (.fz (.int (j : Nat)))) := by
  have e : (natsD l).findIdx? (fun z => PyData.eqv z (.int (k : Nat))) = some j := by
    rw [List.findIdx?_eq_some_iff_getElem]
    refine ⟨by rw [natsD_len]; exact hj, ?_, fun i hi => ?_⟩
    · have : (natsD l)[j]'(by rw [natsD_len]; exact hj) = .int (l.getD j 0 : Nat) := by simp [natsD, hj]
      rw [this, eqv_int, h1]
      simp
    · have := h2 i hi
      have e : (natsD l)[i]'(by rw [natsD_len]; omega) = .int (l.getD i 0 : Nat) := by simp [natsD, show i < l.length by omega]
      rw [e, eqv_int]
      simp only [decide_eq_true_eq]
      omega
  obtain ⟨q, e1, n⟩ := yq_G (k := kLIndex) (b := false) (ys_cons h (ys_cons hg ys_nil)) (y := .own (.fz (.int (j : Nat)))) (by
    have hv : valD (.own (.fz (.int (k : Nat)))) = some (.int (k : Nat)) := rfl
    simp only [kLIndex, hx, Option.bind_some, hv]
    rw [if_pos ⟨sh_shaped (sh_natsL l) (by decide), sh_shaped (sh_int (k := 1)) (by decide)⟩, e]
    rfl)
  refine ⟨q, ?_, n⟩
  obtain ⟨q0, e0, _⟩ := h
  unfold dMt
  rw [if_pos (by rw [e0]; exact hv), e1]
end
theorem sum_if (c : Nat → Bool) (f : Nat → Nat) : ∀ l : List Nat, ((l.filter c).map f).sum = (l.map fun x => if c x = true then f x else 0).sum
  | [] => rfl
  | a :: l => by
    rw [List.filter_cons, List.map_cons, List.sum_cons, ← sum_if c f l]
    by_cases h : c a = true
    · rw [if_pos h, if_pos h]; rfl
    · rw [if_neg h, if_neg h, Nat.zero_add]
theorem seqv_vw (ds : List PyData) : seqv (.vw (.lst (ds.map M.fz))) = some ds := by
  unfold seqv
  have : lv (.vw (.lst (ds.map M.fz))) = some ds := by
    unfold lv
    exact leaves_fz ds
  rw [this]; rfl
theorem runW_ret {t : Ev → Res} {b : Ev → Out} {env e : Ev} {m : M} {k : Nat} (h : YQ t env (.own (.fz (.bool true)))) (hb : b env = .ret m e) : runW t b (k + 1) env = .ret m e := by
  obtain ⟨q, e1, _⟩ := h
  rw [runW]
  simp only [e1, hb]
abbrev oM (os : List Nat) : Option M := some (.lst ((natsD os).map .fz))
theorem ix_last {w : List Nat} (h : w ≠ []) : ixV (.vw (.lst ((natsD w).map .fz))) (-1) = some (.own (.fz (.int (w.getLastD 0 : Nat)))) := by
  have hp : 0 < w.length := List.length_pos_iff.mpr h
  have e : ixN w.length (-1) = some (w.length - 1) := by
    unfold ixN
    rw [if_neg (by decide)]
    first
      | (rw [if_pos (by omega)]; congr 1; omega)
      | (rw [if_pos (by omega)]; simp; omega)
      | (split <;> simp <;> omega)
  simp only [ixV, atI, List.length_map, natsD_len, e, Option.bind_some]
  rw [last_get h]
  simp [natsD, show w.length - 1 < w.length by omega, mkVw]
theorem isIn_nats (x : Nat) (l : List Nat) : isIn (.int (x : Nat)) (natsD l) = decide (x ∈ l) := by
  unfold isIn natsD
  rw [List.any_map]
  induction l with
  | nil => rfl
  | cons a l ih =>
    rw [List.any_cons, ih]
    show (PyData.eqv (.int (a : Nat)) (.int (x : Nat)) || _) = _
    rw [eqv_int]
    by_cases h : x = a
    · subst h; simp
    · have : ¬ (a : Int) = (x : Int) := by omega
      simp [h, this]
theorem scal_nats (l : List Nat) : (natsD l).all scalD = true := by
  rw [List.all_eq_true]
  intro d hd
  obtain ⟨x, _, rfl⟩ := List.mem_map.mp hd
  rfl
theorem oInB_nats (x : Nat) (l : List Nat) : oInB [.int (x : Nat), .list (natsD l)] = some (decide (x ∈ l)) := by
  show (if (scalD (.int (x : Nat)) && (natsD l).all scalD) = true then some (isIn (.int (x : Nat)) (natsD l)) else _) = _
  rw [scal_nats]
  refine Eq.trans (if_posb (c := true && true) rfl _ _) ?_
  rw [isIn_nats]
section
variable {f g : Ev → Res} {env : Ev} {x : Nat} {l : List Nat} {v : Val}
theorem yq_inN (h : YQ f env (.own (.fz (.int (x : Nat))))) (h2 : YQ g env v) (hv : valD v = some (.list (natsD l))) : YQ (dG (kPl oIn) [f, g]) env (.own (.fz (.bool (decide (x ∈ l))))) := yq_G (b := false) (ys_cons h (ys_cons h2 ys_nil)) (by
  have e : valDs [.own (.fz (.int (x : Nat))), v] = some [.int (x : Nat), .list (natsD l)] := by
    have e1 : valD (.own (.fz (.int (x : Nat)))) = some (.int (x : Nat)) := rfl
    simp only [valDs, e1, hv, Option.bind_some, Option.map_some]
  simp only [kPl, e, Option.bind_some, oIn, oInB_nats, Option.map_some])
theorem yq_ninN (h : YQ f env (.own (.fz (.int (x : Nat))))) (h2 : YQ g env v) (hv : valD v = some (.list (natsD l))) : YQ (dG (kPl oNin) [f, g]) env (.own (.fz (.bool (!decide (x ∈ l))))) := yq_G (b := false) (ys_cons h (ys_cons h2 ys_nil)) (by
  have e : valDs [.own (.fz (.int (x : Nat))), v] = some [.int (x : Nat), .list (natsD l)] := by
    have e1 : valD (.own (.fz (.int (x : Nat)))) = some (.int (x : Nat)) := rfl
    simp only [valDs, e1, hv, Option.bind_some, Option.map_some]
  simp only [kPl, e, Option.bind_some, oNin, oInB_nats, Option.map_some])
theorem vw_valD (l : List Nat) : valD (.vw (.lst ((natsD l).map .fz))) = some (.list (natsD l)) := frz_lst _
theorem cut_from (l : List Nat) {i : Nat} (h : i ≤ l.length) : cutD (natsD l) (some (i : Int)) none = natsD (l.drop i) := by
  unfold cutD
  rw [natsD_len]
  have e1 : HT.sIx l.length 0 (some (i : Int)) = i := by
    unfold HT.sIx
    simp
    rw [if_neg (by omega)]
    omega
  have e2 : HT.sIx l.length l.length none = l.length := rfl
  rw [e1, e2]
  unfold natsD
  rw [← List.map_drop, List.take_of_length_le (by simp)]
theorem yq_from {i s : Nat} (h : env[s]? = some (oM l)) (h2 : YQ g env (.own (.fz (.int (i : Nat))))) (hi : i ≤ l.length) : YQ (dFr (dF Ql.n (kSl1 true) [dPk s, g])) env (.own (.fz (.list (natsD (l.drop i))))) := by
  refine yq_fr (m := .lst ((natsD (l.drop i)).map .fz)) (yq_Fn (ys_cons (yq_vw h) (ys_cons h2 ys_nil)) ?_) (frz_lst _)
  rw [← cut_from l hi]
  show slV (.vw (.lst ((natsD l).map .fz))) (some (i : Int)) none = _
  have : lv (.vw (.lst ((natsD l).map .fz))) = some (natsD l) := by
    unfold lv
    exact leaves_fz _
  show (lv (.vw (.lst ((natsD l).map .fz)))).map _ = _
  rw [this]
  rfl
end
theorem filt_nats {c : Nat → Bool} {n : Nat} : ((rngD 0 n).filter fun d => match d with
    | .int j => c j.toNat
    | _ => false).map M.fz = (natsD ((List.range n).filter c)).map .fz := by
  rw [rngD_ints, List.filter_map]
  rfl
theorem head_ix {l : List Nat} (h : l ≠ []) : ixV (.own (.fz (.list (natsD l)))) 0 = some (.own (.fz (.int (l.headD 0 : Nat)))) := by
  cases l with
  | nil => exact absurd rfl h
  | cons a l => exact ix_lstN (l := a :: l) (i := 0) (by simp)
theorem last_mem {w : List Nat} (h : w ≠ []) : w.getLastD 0 ∈ w := by
  rw [last_get h]
  have hp : 0 < w.length := List.length_pos_iff.mpr h
  exact get_mem (by omega)
theorem dicOf_M (t : List (Key × PyData)) : dicOf (some (some (dicM t))) = some t := by
  unfold dicOf dicM
  simp only []
  rw [fzs_map, leaves_fz]
  show some ((t.map (·.1)).zip (t.map (·.2))) = some t
  congr 1
  rw [List.zip_map']
  exact List.map_id t
theorem out_putK {s : Nat} {g f : Ev → Res} {env : Ev} {t : List (Key × PyData)} {kd d : PyData} {k : Key} (h : YQ f env (.own (.fz d))) (hg : YQ g env (.own (.fz kd))) (hs : env[s]? = some (some (dicM t))) (hk : keyD kd = some k) (hl : t.length < SZ) : dPutK s g f env = .nx (env.set s (some (dicM (putD t k d)))) := by
  obtain ⟨q, e, _⟩ := yq_fr h (m := .fz d) rfl
  obtain ⟨q2, e2, _⟩ := yq_fr hg (m := .fz kd) rfl
  have hd : dicOf env[s]? = some t := by rw [hs]; exact dicOf_M t
  have hh : held1 env s = true := by unfold held1; rw [hs]
  unfold dPutK
  simp only [e, hh, if_true, e2, hk, hd, if_pos hl]
theorem yq_get2 {s : Nat} {g f : Ev → Res} {env : Ev} {t : List (Key × PyData)} {kd yd : PyData} {k : Key} (h : YQ f env (.own (.fz kd))) (hg : YQ g env (.own (.fz yd))) (hs : env[s]? = some (some (dicM t))) (hk : keyD kd = some k) : YQ (dGet2 s f g) env (.own (.fz ((findD t k).getD yd))) := by
  obtain ⟨q, e, n⟩ := ys_cons (yq_fr h (m := .fz kd) rfl) (ys_cons (yq_fr hg (m := .fz yd) rfl) ys_nil)
  have hd : dicOf env[s]? = some t := by rw [hs]; exact dicOf_M t
  refine ⟨q.n, ?_, nnl n⟩
  unfold dGet2
  simp only [hd, e, get2R, hk]
theorem yq_addL {f g : Ev → Res} {env : Ev} {a : List Nat} {b : Nat} (h : YQ f env (.own (.fz (.list (natsD a))))) (h2 : YQ g env (.own (.fz (.int (b : Nat))))) (hl : a.length ≤ 1000) : YQ (dFr (dG kAdd [f, dLst [dFr g]])) env (.own (.fz (.list (natsD (a ++ [b]))))) := by
  have y2 : YQ (dLst [dFr g]) env (.own (.lst [.fz (.int (b : Nat))])) := yq_Fn (ys_cons (yq_fr h2 rfl) ys_nil) rfl
  refine yq_fr (m := .lst ((natsD (a ++ [b])).map .fz)) (yq_G (b := true) (ys_cons h (ys_cons y2 ys_nil)) ?_) (frz_lst _)
  have k1 : kAddP [.own (.fz (.list (natsD a))), .own (.lst [.fz (.int (b : Nat))])] = none := rfl
  have k2 : kAddT [.own (.fz (.list (natsD a))), .own (.lst [.fz (.int (b : Nat))])] = none := rfl
  have k3 : kAddL [.own (.fz (.list (natsD a))), .own (.lst [.fz (.int (b : Nat))])] = some (.own (.lst ((natsD (a ++ [b])).map .fz)), true) := by
    show (if (natsD a).length + 1 ≤ SZ then some (Val.own (.lst ((natsD a ++ [PyData.int (b : Nat)]).map .fz)), true) else none) = _
    rw [natsD_len, if_pos (by unfold SZ; omega)]
    have : natsD a ++ [PyData.int (b : Nat)] = natsD (a ++ [b]) := by simp [natsD]
    rw [this]
  unfold kAdd
  rw [k1, k2, k3]
  rfl
theorem get_inj {r : List Nat} (nd : r.Nodup) {a b : Nat} (ha : a < r.length) (hb : b < r.length) (h : r.getD a 0 = r.getD b 0) : a = b := by
  have z2 : r[a] = r[b] := by simpa [ha, hb] using h
  exact (List.getElem_inj nd).mp z2
theorem succ_mod {j L : Nat} (h : j < L) : (j + 1) % L = if j + 1 = L then 0 else j + 1 := by
  by_cases e : j + 1 = L
  · rw [if_pos e, e, Nat.mod_self]
  · rw [if_neg e]; exact Nat.mod_eq_of_lt (by omega)
theorem pred_mod {j L : Nat} (h : j < L) : (j + L - 1) % L = if j = 0 then L - 1 else j - 1 := by
  by_cases e : j = 0
  · rw [if_pos e, e, Nat.zero_add]; exact Nat.mod_eq_of_lt (by omega)
  · rw [if_neg e]
    have : j + L - 1 = (j - 1) + L := by omega
    rw [this, Nat.add_mod_right]
    exact Nat.mod_eq_of_lt (by omega)
theorem yq_index1 {f g : Ev → Res} {env : Ev} {v : Val} {l : List Nat} {x : Nat} (h : YQ f env v) (hx : lv v = some (natsD l)) (hv : lsV v = true) (hg : YQ g env (.own (.fz (.int (x : Nat))))) (hm : x ∈ l) : YQ (dMt kLIndex f g) env (.own (.fz (.int (l.idxOf x : Nat)))) := by
  have hi := List.idxOf_lt_length_of_mem hm
  refine yq_indexN (l := l) (k := x) h hx hv hg hi (idx_get hm) fun i hlt e => ?_
  have hl : i < l.length := by omega
  have e2 : l[i] = x := by rw [← e]; simp [hl]
  have := List.not_of_lt_findIdx (p := fun y => y == x) (xs := l) (i := i) hlt
  simp [e2] at this
theorem lt_ints (a b : Int) (l m : List Int) : PySem.W.dataLt (.list ((a :: l).map .int)) (.list ((b :: m).map .int)) = (decide (a < b) || (!decide (b < a) && PySem.W.dataLt (.list (l.map .int)) (.list (m.map .int)))) := by
  unfold PySem.W.dataLt
  show PyProof.Rows.lexLt PyProof.Rows.itemOrd (.inl 1 :: ([.inl a] ++ PySem.W.keyToksAll (l.map .int))) (.inl 1 :: ([.inl b] ++ PySem.W.keyToksAll (m.map .int))) = _
  rw [PyProof.Rows.lex_self (O := PyProof.Rows.itemOrd)]
  exact PyProof.Rows.lex_cons (O := PyProof.Rows.itemOrd) _ _ _ _
theorem lt_pair (s t : Int × Int) : PySem.W.dataLt (pairD s) (pairD t) = decide (s.1 < t.1 ∨ (s.1 = t.1 ∧ s.2 < t.2)) := by
  have e : PySem.W.dataLt (pairD s) (pairD t) = PySem.W.dataLt (.list ([s.1, s.2].map .int)) (.list ([t.1, t.2].map .int)) := rfl
  have z : PySem.W.dataLt (.list (([] : List Int).map .int)) (.list (([] : List Int).map .int)) = false := rfl
  rw [e, lt_ints, lt_ints, z]
  by_cases h1 : s.1 < t.1
  · simp [h1]
  · by_cases h2 : t.1 < s.1
    · simp [h1, h2]
      omega
    · have e1 : s.1 = t.1 := by omega
      simp [e1]
theorem minD_least {d : PyData} {ds : List PyData} : ∀ x ∈ d :: ds, PySem.W.dataLt x (PySem.W.minD d ds) = false := by
  have irr : ∀ x, PySem.W.dataLt x x = false := fun x => PyProof.Rows.lex_irrefl (O := PyProof.Rows.itemOrd) _
  have tr : ∀ x y z, PySem.W.dataLt x y = true → PySem.W.dataLt y z = true → PySem.W.dataLt x z = true := fun x y z => PyProof.Rows.lex_trans (O := PyProof.Rows.itemOrd) _ _ _
  have key : ∀ (ds : List PyData) (d : PyData) (seen : List PyData), (∀ x ∈ seen, PySem.W.dataLt x d = false) → ∀ x, x ∈ seen ∨ x ∈ d :: ds → PySem.W.dataLt x (PySem.W.minD d ds) = false := by
    intro ds
    induction ds with
    | nil =>
      intro d seen h x hx
      rcases hx with hx | hx
      · exact h x hx
      · rw [List.mem_singleton.mp hx]; exact irr d
    | cons y ds ih =>
      intro d seen h x hx
      show PySem.W.dataLt x (PySem.W.minD (if PySem.W.dataLt y d = true then y else d) ds) = false
      by_cases hy : PySem.W.dataLt y d = true
      · rw [if_pos hy]
        refine ih y (d :: seen) (fun z hz => ?_) x ?_
        · cases hzy : PySem.W.dataLt z y with
          | false => rfl
          | true =>
            have hzd := tr z y d hzy hy
            rcases List.mem_cons.mp hz with e | hz
            · rw [e, irr] at hzd; cases hzd
            · rw [h z hz] at hzd; cases hzd
        · rcases hx with hx | hx
          · exact .inl (List.mem_cons_of_mem _ hx)
          · rcases List.mem_cons.mp hx with e | hx
            · exact .inl (by rw [e]; exact List.mem_cons_self)
            · exact .inr hx
      · have hy : PySem.W.dataLt y d = false := by simpa using hy
        rw [hy]
        refine ih d (y :: seen) (fun z hz => ?_) x ?_
        · rcases List.mem_cons.mp hz with e | hz
          · rw [e]; exact hy
          · exact h z hz
        · rcases hx with hx | hx
          · exact .inl (List.mem_cons_of_mem _ hx)
          · rcases List.mem_cons.mp hx with e | hx
            · exact .inr (by rw [e]; exact List.mem_cons_self)
            · rcases List.mem_cons.mp hx with e | hx
              · exact .inl (by rw [e]; exact List.mem_cons_self)
              · exact .inr (List.mem_cons_of_mem _ hx)
  exact fun x hx => key ds d [] (fun _ h => by cases h) x (.inr hx)
theorem noLs_ints (p : List Int) : noLs (p.map .int) = true := by
  induction p with
  | nil => rfl
  | cons a p ih => rw [List.map_cons, noLs, ih]; rfl
theorem alike_intsD : ∀ (a b : List Int), PySem.W.alikeAll (a.map .int) (b.map .int) = true
  | [], [] => rfl
  | [], _ :: _ => rfl
  | _ :: _, [] => rfl
  | x :: a, y :: b => by
    show (PySem.W.alike (.int x) (.int y) && PySem.W.alikeAll (a.map .int) (b.map .int)) = true
    rw [alike_intsD a b]; rfl
theorem yq_minT {f : Ev → Res} {env : Ev} {x : Val} {r : PyData} {ts : List (List Int)} {t : List Int} (h : YQ f env x) (hx : valD x = some (.list ((t :: ts).map fun l => .tuple (l.map .int)))) (hr : PySem.W.minD (.tuple (t.map .int)) (ts.map fun l => .tuple (l.map .int)) = r) : YQ (dG kMinA [f]) env (.own (.fz r)) := yq_G (b := false) (ys_cons h ys_nil) (by
  have e : valDs [x] = some [.list ((t :: ts).map fun l => .tuple (l.map .int))] := by simp only [valDs, hx, Option.bind_some, Option.map_some]
  have e1 : kPl oMin [x] = none := by
    simp only [kPl, e, Option.bind_some, oMin, List.map_cons]
    rfl
  have al : alikes ((t :: ts).map fun l => .tuple (l.map .int)) = true := by
    unfold alikes
    rw [Bool.and_eq_true, List.all_eq_true, List.all_eq_true]
    refine ⟨fun a ha => ?_, fun a ha => ?_⟩
    · rw [List.all_eq_true]
      intro b hb
      obtain ⟨p, _, rfl⟩ := List.mem_map.mp ha
      obtain ⟨q, _, rfl⟩ := List.mem_map.mp hb
      exact alike_intsD p q
    · obtain ⟨p, _, rfl⟩ := List.mem_map.mp ha
      rfl
  have sh : SeqAt.shaped (.list ((t :: ts).map fun l => .tuple (l.map .int))) = true := sh_shaped (k := 2) (sh_lst (k := 1) fun a ha => by
    obtain ⟨p, _, rfl⟩ := List.mem_map.mp ha
    exact sh_tup (k := 0) fun y hy => by
      obtain ⟨i, _, rfl⟩ := List.mem_map.mp hy
      exact sh_int) (by decide)
  have nl : noL r = true := by
    have hm := minD_mem (.tuple (t.map .int)) (ts.map fun l => .tuple (l.map .int))
    rw [hr, ← List.map_cons (f := fun l : List Int => PyData.tuple (l.map .int))] at hm
    obtain ⟨p, _, rfl⟩ := List.mem_map.mp hm
    exact noLs_ints p
  have e2 : kPl (oBest PySem.W.minD) [x] = some (.own (.fz r), false) := by
    have : oBest PySem.W.minD [.list ((t :: ts).map fun l => .tuple (l.map .int))] = some r := by
      rw [List.map_cons] at al sh ⊢
      show (if (alikes _ && SeqAt.shaped _ && noL (PySem.W.minD (.tuple (t.map .int)) (ts.map fun l => .tuple (l.map .int)))) = true then some (PySem.W.minD (.tuple (t.map .int)) (ts.map fun l => .tuple (l.map .int))) else none) = some r
      rw [hr, al, sh, nl]
      rfl
    simp only [kPl, e, Option.bind_some, this, Option.map_some]
  unfold kMinA
  rw [e1, e2]; rfl)
theorem out_aug {i : Nat} {f : Ev → Res} {env : Ev} {a b c : Int} {o : Int → Int → Option Int} (he : env[i]? = some (some (.fz (.int a)))) (h : YQ f env (.own (.fz (.int b)))) (ho : o a b = some c) (hi : i < env.length) : dAug i o f env = .nx (env.set i (some (.fz (.int c)))) := by
  obtain ⟨q, e, _⟩ := h
  unfold dAug
  simp only [he, e, ho, put1, if_pos hi]
theorem out_par3 {i j l : Nat} {f g k : Ev → Res} {env : Ev} {m n o : M} (h : YQs [f, g, k] env [.own m, .own n, .own o]) (hi : i < env.length) (hj : j < env.length) (hl : l < env.length) : dPar3 i j l f g k env = .nx (((env.set i (some m)).set j (some n)).set l (some o)) := by
  obtain ⟨q, e, _⟩ := h
  unfold dPar3
  simp only [e, if_pos (And.intro hi (And.intro hj hl))]
theorem klrng {n : Nat} (h : n ≤ 1000) : kLRng [.own (.fz (.int (n : Nat)))] = some (.own (.lst ((rngD 0 n).map .fz)), true) := by
  have sz : SZ = 16777216 := rfl
  show (if -(2 ^ 62) ≤ ((n : Nat) : Int) ∧ ((n : Nat) : Int) ≤ SZ then some (Val.own (.lst ((rngD 0 ((n : Nat) : Int).toNat).map .fz)), true) else none) = _
  rw [if_pos (by omega)]
  rfl
theorem eqv_ints : ∀ a b : List Int, PyData.eqv (.list (a.map .int)) (.list (b.map .int)) = decide (a = b)
  | [], [] => by simp [PyData.eqv, PyData.eqvAll]
  | [], _ :: _ => by simp [PyData.eqv, PyData.eqvAll]
  | _ :: _, [] => by simp [PyData.eqv, PyData.eqvAll]
  | x :: a, y :: b => by
    have ih := eqv_ints a b
    have e : PyData.eqv (.list ((x :: a).map .int)) (.list ((y :: b).map .int)) = (PyData.eqv (.int x) (.int y) && PyData.eqv (.list (a.map .int)) (.list (b.map .int))) := by simp only [List.map_cons, PyData.eqv, PyData.eqvAll]
    rw [e, ih, eqv_int]
    by_cases h1 : x = y <;> by_cases h2 : a = b <;> simp [h1, h2]
theorem ints_shL (l : List Int) : Sh 1 (.list (l.map .int)) := sh_lst (k := 0) fun x hx => by
  obtain ⟨i, _, rfl⟩ := List.mem_map.mp hx
  exact sh_int
theorem minI_of {l : List Int} {m : Int} (h : m ∈ l) (hle : ∀ x ∈ l, m ≤ x) : minI l = some m := by
  cases e : minI l with
  | none =>
    cases l with
    | nil => cases h
    | cons a l => cases e
  | some k =>
    obtain ⟨h1, h2⟩ := minI_some e
    have := h2 m h
    have := hle k h1
    rw [show k = m by omega]
section
variable {f g : Ev → Res} {env : Ev} {x : Val} {l : List Nat} {j k : Nat}
theorem yq_minN (h : YQ f env x) (hx : valD x = some (.list (natsD l))) (hm : k ∈ l) (hle : ∀ y ∈ l, k ≤ y) : YQ (dG kMinA [f]) env (.own (.fz (.int (k : Nat)))) := yq_G (b := false) (ys_cons h ys_nil) (by
  have e : valDs [x] = some [.list (natsD l)] := by simp only [valDs, hx, Option.bind_some, Option.map_some]
  have e2 : minI (l.map fun x : Nat => (x : Int)) = some (k : Int) := minI_of (List.mem_map.mpr ⟨k, hm, rfl⟩) fun y hy => by
    obtain ⟨z, hz, rfl⟩ := List.mem_map.mp hy
    have := hle z hz
    omega
  have e3 : kPl oMin [x] = some (.own (.fz (.int (k : Nat))), false) := by
    simp only [kPl, e, Option.bind_some, oMin, natsD_ints, intsD_map, e2, Option.map_some]
  unfold kMinA
  rw [e3]; rfl)
end
theorem max_nats {l : List Nat} (h : l ≠ []) : ∃ M : Nat, M ∈ l ∧ (∀ x ∈ l, x ≤ M) ∧ maxI (l.map fun x : Nat => (x : Int)) = some (M : Int) := by
  cases e : maxI (l.map fun x : Nat => (x : Int)) with
  | none =>
    cases l with
    | nil => exact absurd rfl h
    | cons a l => cases e
  | some k =>
    obtain ⟨h1, h2⟩ := maxI_some e
    obtain ⟨M, hM, rfl⟩ := List.mem_map.mp h1
    exact ⟨M, hM, fun x hx => by have := h2 _ (List.mem_map.mpr ⟨x, hx, rfl⟩); omega, rfl⟩
theorem yq_maxV {f : Ev → Res} {env : Ev} {x : Val} {l : List Nat} {M : Nat} (h : YQ f env x) (hx : valD x = some (.list (natsD l))) (hm : maxI (l.map fun x : Nat => (x : Int)) = some (M : Int)) : YQ (dG (kPl oMax) [f]) env (.own (.fz (.int (M : Nat)))) := yq_G (b := false) (ys_cons h ys_nil) (by
  have e : valDs [x] = some [.list (natsD l)] := by simp only [valDs, hx, Option.bind_some, Option.map_some]
  simp only [kPl, e, Option.bind_some, oMax, natsD_ints, intsD_map, hm, Option.map_some])
theorem yq_addLL {f g : Ev → Res} {env : Ev} {a b : List Nat} (h : YQ f env (.own (.lst ((natsD a).map .fz)))) (h2 : YQ g env (.own (.lst ((natsD b).map .fz)))) (ha : a.length ≤ 1000) (hb : b.length ≤ 1000) : YQ (dG kAdd [f, g]) env (.own (.lst ((natsD (a ++ b)).map .fz))) := by
  refine yq_G (b := true) (ys_cons h (ys_cons h2 ys_nil)) ?_
  have k1 : kAddP [.own (.lst ((natsD a).map M.fz)), .own (.lst ((natsD b).map M.fz))] = none := by
    have hv : valDs [.own (.lst ((natsD a).map M.fz)), .own (.lst ((natsD b).map M.fz))] = some [.list (natsD a), .list (natsD b)] := by simp only [valDs, valD, frz_lst, Option.bind_some, Option.map_some]
    unfold kAddP
    simp only [kPl, hv, Option.bind_some]
    rfl
  have k2 : kAddT [.own (.lst ((natsD a).map M.fz)), .own (.lst ((natsD b).map M.fz))] = none := rfl
  have la : lv (.own (.lst ((natsD a).map M.fz))) = some (natsD a) := by
    unfold lv
    exact leaves_fz _
  have lb : lv (.own (.lst ((natsD b).map M.fz))) = some (natsD b) := by
    unfold lv
    exact leaves_fz _
  have k3 : kAddL [.own (.lst ((natsD a).map M.fz)), .own (.lst ((natsD b).map M.fz))] = some (.own (.lst ((natsD (a ++ b)).map .fz)), true) := by
    simp only [kAddL, la, lb, Option.bind_some]
    have : natsD a ++ natsD b = natsD (a ++ b) := by simp [natsD]
    rw [this, natsD_len, natsD_len, if_pos (by unfold SZ; omega)]
  unfold kAdd
  rw [k1, k2, k3]
  rfl
theorem eq_nilV {f : Ev → Res} {env : Ev} {x : Val} {l : List Nat} (h : YQ f env x) (hx : valD x = some (.list (natsD l))) : YQ (dG (kPl oEq) [f, dLst []]) env (.own (.fz (.bool (decide (l = []))))) := by
  have h2 : YQ (dLst []) env (.own (.lst ([] : List M))) := yq_Fn ys_nil rfl
  refine yq_G (b := false) (ys_cons h (ys_cons h2 ys_nil)) ?_
  have e : valDs [x, .own (.lst [])] = some [.list (natsD l), .list []] := by
    have : valD (.own (.lst [])) = some (.list []) := rfl
    simp only [valDs, hx, this, Option.bind_some, Option.map_some]
  have ok : eqOk (.list (natsD l)) (.list []) = true := eqOk_sh (k := 1) (sh_natsL _) (sh_lst (k := 0) fun x hx => by cases hx) (by decide)
  simp only [kPl, e, Option.bind_some, oEq, ok, if_true, Option.map_some]
  cases l <;> rfl
theorem ne_nilV {f : Ev → Res} {env : Ev} {x : Val} {l : List Nat} (h : YQ f env x) (hx : valD x = some (.list (natsD l))) : YQ (dG (kPl oNe) [f, dLst []]) env (.own (.fz (.bool (!decide (l = []))))) := by
  have h2 : YQ (dLst []) env (.own (.lst ([] : List M))) := yq_Fn ys_nil rfl
  refine yq_G (b := false) (ys_cons h (ys_cons h2 ys_nil)) ?_
  have e : valDs [x, .own (.lst [])] = some [.list (natsD l), .list []] := by
    have : valD (.own (.lst [])) = some (.list []) := rfl
    simp only [valDs, hx, this, Option.bind_some, Option.map_some]
  have ok : eqOk (.list (natsD l)) (.list []) = true := eqOk_sh (k := 1) (sh_natsL _) (sh_lst (k := 0) fun x hx => by cases hx) (by decide)
  simp only [kPl, e, Option.bind_some, oNe, ok, if_true, Option.map_some]
  cases l <;> rfl
theorem y4 {a b c d : Ev → Res} {env : Ev} {w x y z : PyData} (h1 : YQ a env (.own (.fz w))) (h2 : YQ b env (.own (.fz x))) (h3 : YQ c env (.own (.fz y))) (h4 : YQ d env (.own (.fz z))) : YQs [a, b, c, d] env [.own (.fz w), .own (.fz x), .own (.fz y), .own (.fz z)] := ys_cons h1 (ys_cons h2 (ys_cons h3 (ys_cons h4 ys_nil)))
theorem set_dv {i : Nat} {f : Ev → Res} {e : Dr → Ev} {P : M → Prop} (h : DV f e fun x => ∃ m, x = .own m ∧ P m) (hi : ∀ D, i < (e D).length) {D : Dr} (ok : Dr.Ok D) : ∃ m D2, Dr.Ok D2 ∧ P m ∧ dSet i f (e D) = .nx ((e D2).set i (some m)) := by
  obtain ⟨x, D2, q, ok2, ⟨m, rfl, p⟩, h1⟩ := h D ok
  refine ⟨m, D2, ok2, p, ?_⟩
  unfold dSet
  rw [h1]
  exact if_pos (hi D2)
theorem app_dv {s : Nat} {f : Ev → Res} {e : Dr → Ev} {ms : List M} {P : PyData → Prop} (h : DV f e fun x => ∃ m d, x = .own m ∧ frz m = some d ∧ P d) (hs : ∀ D, (e D)[s]? = some (some (.lst ms))) (hl : ms.length < SZ) {D : Dr} (ok : Dr.Ok D) : ∃ d D2, Dr.Ok D2 ∧ P d ∧ dEx (dApp s f) (e D) = .nx ((e D2).set s (some (.lst (ms ++ [.fz d])))) := by
  obtain ⟨x, D2, q, ok2, ⟨m, d, rfl, hd, p⟩, h1⟩ := h D ok
  refine ⟨d, D2, ok2, p, ?_⟩
  have e1 : dFr f (e D) = .ok (.own (.fz d)) (e D2) q := by
    unfold dFr
    rw [h1]
    simp only [hd]
  unfold dEx dApp
  simp only [isLst, hs, if_true, e1, wrAt, M.wr, appD, if_pos hl, Option.map_some]
theorem dv_ixO {s : Nat} {f : Ev → Res} {e : Dr → Ev} {ms : List M} {P : Int → Prop} {P' : PyData → Prop} (h : DV f e (IsI P)) (hs : ∀ D, (e D)[s]? = some (some (.lst ms))) (hp : ∀ i, P i → ∃ d, atI ms i = some (.fz d) ∧ P' d) : DV (dIxO s f) e fun x => ∃ m d, x = .own m ∧ frz m = some d ∧ P' d := fun D ok => by
  obtain ⟨x, D2, q, ok2, ⟨m, rfl, i, rfl, hi⟩, h1⟩ := h D ok
  obtain ⟨d, hd, p⟩ := hp i hi
  refine ⟨.own (.fz d), D2, q, ok2, ⟨.fz d, d, rfl, rfl, p⟩, ?_⟩
  unfold dIxO
  have hl : isLst (e D) s = true := by unfold isLst; rw [hs]
  rw [if_pos hl, h1]
  simp only [hs, hd]
theorem app_pop {s z : Nat} {f : Ev → Res} {e : Dr → Ev} {ms ns : List M} {P : Int → Prop} (h : DV f e (IsI P)) (hs : ∀ D, (e D)[s]? = some (some (.lst ms))) (hz : ∀ D, (e D)[z]? = some (some (.lst ns))) (hl : ns.length < SZ) (sz : s ≠ z) (hp : ∀ i, P i → ∃ k : Nat, ∃ d, i = k ∧ k < ms.length ∧ ms.length ≤ 1000 ∧ ms[k]? = some (.fz d)) {D : Dr} (ok : Dr.Ok D) :
    ∃ k d D2, Dr.Ok D2 ∧ k < ms.length ∧ ms[k]? = some (.fz d) ∧ dEx (dApp z (dPop s f)) (e D) = .nx (((e D2).set s (some (.lst (ms.eraseIdx k)))).set z (some (.lst (ns ++ [.fz d])))) := by
  obtain ⟨x, D2, q, ok2, ⟨m, rfl, i, rfl, hi⟩, h1⟩ := h D ok
  obtain ⟨k, d, rfl, hk, hb, hd⟩ := hp i hi
  refine ⟨k, d, D2, ok2, hk, hd, ?_⟩
  have hls : isLst (e D) s = true := by unfold isLst; rw [hs]
  have hlz : isLst (e D) z = true := by unfold isLst; rw [hz]
  have sx : seqIndex? (k : Int) ms.length = some k := by
    unfold seqIndex?
    first
      | (simp; omega)
      | (simp [hk]; done)
      | (split <;> simp <;> omega)
  have e1 : dPop s f (e D) = .ok (.own (.fz d)) ((e D2).set s (some (.lst (ms.eraseIdx k)))) .l := by
    unfold dPop
    rw [if_pos hls, h1]
    simp only [hs]
    rw [if_pos (by omega)]
    simp only [sx, hd]
  have e2 : dFr (dPop s f) (e D) = .ok (.own (.fz d)) ((e D2).set s (some (.lst (ms.eraseIdx k)))) .l := by
    unfold dFr
    rw [e1]
    simp only [frz]
  have hz2 : ((e D2).set s (some (.lst (ms.eraseIdx k))))[z]? = some (some (.lst ns)) := by
    rw [List.getElem?_set_ne sz]
    exact hz D2
  unfold dEx dApp
  simp only [hlz, if_true, e2, wrAt, hz2, M.wr, appD, if_pos hl, Option.map_some]
theorem ro_st {a rest : Ev → Out} {env env2 : Ev} {s : Nat} {Q : M → Prop} (h : a env = .nx env2) (k : RO s rest env2 Q) : RO s (dSeq a rest) env Q := by
  obtain ⟨m, D2, e2, h1, h2, h3, h4⟩ := k
  exact ⟨m, D2, e2, h1, h2, (out_seq h).trans h3, h4⟩
theorem ro_skip {t : Ev → Res} {a rest : Ev → Out} {env : Ev} {s : Nat} {Q : M → Prop} (ht : YQ t env (.own (.fz (.bool false)))) (k : RO s rest env Q) : RO s (dSeq (dIfS t a dNx) rest) env Q := ro_st ((out_ifF ht rfl).trans rfl) k
theorem erase_map {α β : Type} (f : α → β) : ∀ (l : List α) (j : Nat), (l.map f).eraseIdx j = (l.eraseIdx j).map f
  | [], _ => rfl
  | _ :: _, 0 => rfl
  | a :: l, j + 1 => by
    show f a :: (l.map f).eraseIdx j = f a :: (l.eraseIdx j).map f
    rw [erase_map f l j]
theorem erase_perm {α : Type} : ∀ (l : List α) (j : Nat) (h : j < l.length), (l[j] :: l.eraseIdx j).Perm l
  | a :: l, 0, _ => List.Perm.refl _
  | a :: l, j + 1, h => (List.Perm.swap a (l[j]'(by simpa using h)) (l.eraseIdx j)).trans ((erase_perm l j (by simpa using h)).cons a)
abbrev rsD (rs : List (List Nat)) : List PyData := rs.map fun r => .tuple (natsD r)
theorem ne_rows {f : Ev → Res} {env : Ev} {rs : List (List Nat)} (h : YQ f env (.vw (.lst ((rsD rs).map .fz)))) : YQ (dG (kPl oNe) [f, dLst []]) env (.own (.fz (.bool (!decide (rs = []))))) := by
  have h2 : YQ (dLst []) env (.own (.lst ([] : List M))) := yq_Fn ys_nil rfl
  refine yq_G (b := false) (ys_cons h (ys_cons h2 ys_nil)) ?_
  have e : valDs [.vw (.lst ((rsD rs).map .fz)), .own (.lst [])] = some [.list (rsD rs), .list []] := by
    have h1 : valD (.vw (.lst ((rsD rs).map .fz))) = some (.list (rsD rs)) := frz_lst _
    have h3 : valD (.own (.lst [])) = some (.list []) := rfl
    simp only [valDs, h1, h3, Option.bind_some, Option.map_some]
  have ok : eqOk (.list (rsD rs)) (.list []) = true := eqOk_sh (k := 2) (sh_lst (k := 1) fun x hx => by
    obtain ⟨r, _, rfl⟩ := List.mem_map.mp hx
    exact sh_nats (k := 0) r) (sh_lst (k := 1) fun x hx => by cases hx) (by decide)
  simp only [kPl, e, Option.bind_some, oNe, ok, if_true, Option.map_some]
  cases rs <;> rfl
theorem rsD_snoc (rs : List (List Nat)) (r : List Nat) : (rsD rs).map M.fz ++ [.fz (.tuple (natsD r))] = (rsD (rs ++ [r])).map .fz := by simp [rsD]
theorem dv_pickL {f g : Ev → Res} {e : Dr → Ev} {ds : List PyData} {P : M → Prop} (h : ∀ D, Dr.Ok D → YQ f (e D) (.own (.fz (.list ds)))) (ht : DV g e (IsI fun i => 0 ≤ i ∧ i < ds.length)) (hp : ∀ d ∈ ds, P (.fz d)) : DV (dFr (dIx f g)) e fun x => ∃ m, x = .own m ∧ P m := by
  refine (dv_fr (P := fun x => ∃ m, x = .own m ∧ P m) (dv_F (dvs_cons (P := (· = .fz (.list ds))) ((dv_q fun D ok => h D ok).imp fun x hx => ⟨_, hx, rfl⟩) (dvs_cons ht dvs_nil)) fun ms z => ?_))
  obtain ⟨m1, r1, e1, e2, m2, r2, e3, ⟨j, e4, h1, h2⟩, e5⟩ := z
  subst e1 e2 e3 e4 e5
  obtain ⟨x, hx, hj⟩ := atI_of (xs := ds) h1 h2
  refine ⟨.own (.fz x), ?_, _, x, rfl, rfl, _, rfl, hp x hx⟩
  show (atI ds j).map _ = _
  rw [hj]; rfl
theorem yq_addLD {f g : Ev → Res} {env : Ev} {a b : List PyData} (h : YQ f env (.own (.fz (.list a)))) (h2 : YQ g env (.own (.lst (b.map .fz)))) (hl : a.length + b.length ≤ SZ) : YQ (dFr (dG kAdd [f, g])) env (.own (.fz (.list (a ++ b)))) := by
  refine yq_fr (m := .lst ((a ++ b).map .fz)) (yq_G (b := true) (ys_cons h (ys_cons h2 ys_nil)) ?_) (frz_lst _)
  have k1 : kAddP [.own (.fz (.list a)), .own (.lst (b.map .fz))] = none := by
    have hv : valDs [.own (.fz (.list a)), .own (.lst (b.map .fz))] = some [.list a, .list b] := by
      have v1 : valD (.own (.fz (.list a))) = some (.list a) := rfl
      have v2 : valD (.own (.lst (b.map .fz))) = some (.list b) := frz_lst _
      simp only [valDs, v1, v2, Option.bind_some, Option.map_some]
    unfold kAddP
    simp only [kPl, hv, Option.bind_some]
    rfl
  have k2 : kAddT [.own (.fz (.list a)), .own (.lst (b.map .fz))] = none := rfl
  have lb : lv (.own (.lst (b.map M.fz))) = some b := by
    unfold lv
    exact leaves_fz _
  have la : lv (.own (.fz (.list a))) = some a := rfl
  have k3 : kAddL [.own (.fz (.list a)), .own (.lst (b.map .fz))] = some (.own (.lst ((a ++ b).map .fz)), true) := by
    simp only [kAddL, la, lb, Option.bind_some]
    rw [if_pos hl]
  unfold kAdd
  rw [k1, k2, k3]
  rfl
theorem flat1 {a : PyData} (k : Nat) : (List.replicate k [a]).flatten = List.replicate k a := by
  induction k with
  | zero => rfl
  | succ k ih => rw [List.replicate_succ, List.flatten_cons, ih]; rfl
theorem kmul_t {a : PyData} {k : Nat} (h2 : 2 ≤ k) (h3 : k ≤ 1000) : kMul [.own (.fz (.tuple [a])), .own (.fz (.int (k : Nat)))] = some (.own (.fz (.tuple (List.replicate k a))), true) := by
  have h1 : kMulP [.own (.fz (.tuple [a])), .own (.fz (.int (k : Nat)))] = none := rfl
  have h4 : kMulL [.own (.fz (.tuple [a])), .own (.fz (.int (k : Nat)))] = none := rfl
  have h5 : kMulT [.own (.fz (.tuple [a])), .own (.fz (.int (k : Nat)))] = some (.own (.fz (.tuple (List.replicate k a))), true) := by
    show (if decide (([a] : List PyData) ≠ []) && decide ((2 : Int) ≤ ((k : Nat) : Int)) && decide (((k : Nat) : Int) ≤ 1000) && decide (([a] : List PyData).length ≤ 1000) then some (Val.own (.fz (.tuple (List.replicate ((k : Nat) : Int).toNat [a]).flatten)), true) else none) = _
    rw [if_pos (by simp; omega), flat1]
    rfl
  unfold kMul
  rw [h1, h4, h5]
  rfl
theorem kmulA_t {a : PyData} {k : Nat} (h1 : 1 ≤ k) (h3 : k ≤ 1000) : kMulA [.own (.fz (.tuple [a])), .own (.fz (.int (k : Nat)))] = some (.own (.fz (.tuple (List.replicate k a))), true) := by
  unfold kMulA
  by_cases h2 : 2 ≤ k
  · rw [kmul_t h2 h3]
    rfl
  · have e : k = 1 := by omega
    subst e
    rfl
theorem nd_nats (l : List Nat) : ∀ x ∈ natsD l, noDict x = true := fun x hx => by
  obtain ⟨i, _, rfl⟩ := List.mem_map.mp hx
  rfl
theorem nd_rs (rn : List (List Nat)) : ∀ x ∈ rsD rn, noDict x = true := fun x hx => by
  obtain ⟨r, _, rfl⟩ := List.mem_map.mp hx
  exact noDict_tup (nd_nats r)
theorem RO.imp {s : Nat} {b : Ev → Out} {env : Ev} {Q Q' : M → Prop} (h : RO s b env Q) (k : ∀ m, Q m → Q' m) : RO s b env Q' := by
  obtain ⟨m, D2, e2, h1, h2, h3, h4⟩ := h
  exact ⟨m, D2, e2, h1, k m h2, h3, h4⟩
theorem getD_el {α : Type} {l : List α} {i : Nat} {d : α} (h : i < l.length) : l.getD i d = l[i] := by simp [h]
theorem nodup_rangeM {f : Nat → Nat} {n : Nat} (h : ∀ a b, a < n → b < n → f a = f b → a = b) : ((List.range n).map f).Nodup :=
  List.pairwise_map.mpr (List.Pairwise.imp_of_mem (fun ha hb hne e => hne (h _ _ (List.mem_range.mp ha) (List.mem_range.mp hb) e)) List.nodup_range)
theorem perm_sum {l m : List Int} (h : l.Perm m) : l.sum = m.sum := by
  induction h with
  | nil => rfl
  | cons x _ ih => rw [List.sum_cons, List.sum_cons, ih]
  | swap x y l => simp only [List.sum_cons]; omega
  | trans _ _ h1 h2 => rw [h1, h2]
theorem sum_addI {α : Type} (f g : α → Int) : ∀ l : List α, (l.map fun i => f i + g i).sum = (l.map f).sum + (l.map g).sum
  | [] => rfl
  | a :: l => by
    have := sum_addI f g l
    simp only [List.map_cons, List.sum_cons] at this ⊢
    omega
theorem sum_negI {α : Type} (f : α → Int) : ∀ l : List α, (l.map fun i => - f i).sum = - (l.map f).sum
  | [] => rfl
  | a :: l => by
    have := sum_negI f l
    simp only [List.map_cons, List.sum_cons] at this ⊢
    omega
theorem sum_le0 {α : Type} {f : α → Int} : ∀ {l : List α}, (∀ x ∈ l, f x ≤ 0) → (l.map f).sum ≤ 0
  | [], _ => Int.le_refl _
  | a :: l, h => by
    have := sum_le0 (l := l) fun x hx => h x (List.mem_cons_of_mem _ hx)
    have := h a List.mem_cons_self
    simp only [List.map_cons, List.sum_cons]
    omega
/-- a loop that leaves at the first item at which f says so -/
theorem runF_find {p : Tg} {b : Ev → Out} {A : Type} (I : Ev → Prop) (R : A → M) (f : PyData → Option A) : ∀ {ds : List PyData} {env : Ev},
    (∀ d ∈ ds, ∀ env, I env → ∃ e1, p d env = some e1 ∧ ((f d = none → ∃ e2, (b e1 = .nx e2 ∨ b e1 = .ct e2) ∧ I e2) ∧ ∀ a, f d = some a → ∃ e2, b e1 = .ret (R a) e2)) → I env →
    (ds.findSome? f = none → ∃ e2, runF p b ds env = .nx e2 ∧ I e2) ∧ ∀ a, ds.findSome? f = some a → ∃ e2, runF p b ds env = .ret (R a) e2
  | [], env, _, h => ⟨fun _ => ⟨env, rfl, h⟩, fun a z => by cases z⟩
  | d :: ds, env, hs, h => by
    obtain ⟨e1, h1, h2, h3⟩ := hs d List.mem_cons_self env h
    rw [List.findSome?_cons]
    cases e : f d with
    | none =>
      obtain ⟨e2, h4, h5⟩ := h2 e
      obtain ⟨k1, k2⟩ := runF_find I R f (ds := ds) (env := e2) (fun d hd => hs d (List.mem_cons_of_mem _ hd)) h5
      have st : runF p b (d :: ds) env = runF p b ds e2 := by
        rw [runF]
        rcases h4 with h4 | h4 <;> simp only [h1, h4]
      rw [st]
      exact ⟨k1, k2⟩
    | some a =>
      obtain ⟨e2, h4⟩ := h3 a e
      refine ⟨fun z => by simp at z, fun a' z => ?_⟩
      have : a = a' := by simpa using z
      subst this
      exact ⟨e2, by rw [runF]; simp only [h1, h4]⟩
theorem yq_intB {f : Ev → Res} {env : Ev} {b : Bool} (h : YQ f env (.own (.fz (.bool b)))) : YQ (dG (kPl oInt) [f]) env (.own (.fz (.int (if b then 1 else 0)))) := yq_p1 h rfl
def isNoD : PyData → Bool
  | .none => true
  | _ => false
theorem yq_isNoneD {f : Ev → Res} {env : Ev} {d : PyData} {b : Bool} (h : YQ f env (.own (.fz d))) (hb : b = isNoD d) : YQ (dG (kIs false) [f, dLit .none]) env (.own (.fz (.bool b))) := yq_G (b := false) (ys_cons h (ys_cons yq_lit ys_nil)) (by
  subst hb
  cases d <;> rfl)
/-- x.index(y), x a tuple of numbers -/
theorem yq_idxT {f g : Ev → Res} {env : Ev} {l : List Nat} {k : Nat} (h : YQ f env (.own (.fz (.tuple (natsD l))))) (hg : YQ g env (.own (.fz (.int (k : Nat))))) (hk : k ∈ l) : YQ (dIdx f g) env (.own (.fz (.int (l.idxOf k : Nat)))) := by
  obtain ⟨q0, e0, _⟩ := id h
  have hi := List.idxOf_lt_length_of_mem hk
  have fi : (l.map fun x : Nat => (x : Int)).findIdx? (fun y => decide (y = ((k : Nat) : Int))) = some (l.idxOf k) := by
    rw [List.findIdx?_eq_some_iff_getElem]
    refine ⟨by rw [List.length_map]; exact hi, ?_, fun j hj => ?_⟩
    · rw [List.getElem_map, List.getElem_idxOf hi]
      simp
    · rw [List.getElem_map]
      have hjl : j < l.length := by omega
      have := List.not_of_lt_findIdx (p := fun y => y == k) (xs := l) (i := j) hj
      have : l[j] ≠ k := fun z => by simp [z] at this
      simp only [decide_eq_true_eq]
      omega
  have z : YQ (dG kTIndex [f, g]) env (.own (.fz (.int (l.idxOf k : Nat)))) := yq_G (b := false) (ys_cons h (ys_cons hg ys_nil)) (by
    have e1 : tv (.own (.fz (.tuple (natsD l)))) = some ((l.map fun x : Nat => (x : Int)).map .int) := congrArg some (natsD_ints l)
    have e2 : valD (.own (.fz (.int (k : Nat)))) = some (.int (k : Nat)) := rfl
    simp only [kTIndex, e1, Option.bind_some, intsD_map, e2, fi, Option.map_some])
  obtain ⟨q, e, nn⟩ := z
  refine ⟨q, ?_, nn⟩
  unfold dIdx dMtT
  rw [if_neg (by rw [e0]; simp [lsR, lsV]), if_pos (by rw [e0]; rfl)]
  exact e
theorem isInT_nats (x : Nat) (l : List Nat) : oInB [.int (x : Nat), .tuple (natsD l)] = some (decide (x ∈ l)) := by
  show (if (scalD (.int (x : Nat)) && (natsD l).all scalD) = true then some (isIn (.int (x : Nat)) (natsD l)) else none) = _
  rw [scal_nats]
  refine Eq.trans (if_posb (c := true && true) rfl _ _) ?_
  rw [isIn_nats]
theorem yq_ninT {f g : Ev → Res} {env : Ev} {x : Nat} {l : List Nat} (h : YQ f env (.own (.fz (.int (x : Nat))))) (h2 : YQ g env (.own (.fz (.tuple (natsD l))))) : YQ (dG (kPl oNin) [f, g]) env (.own (.fz (.bool (!decide (x ∈ l))))) := yq_p2 h h2 (by
  unfold oNin
  rw [isInT_nats]
  rfl)
/-- what a datum of numbers tells -/
def unN : PyData → List Nat
  | .tuple ds => ds.map fun | .int i => i.toNat | _ => 0
  | _ => []
theorem unN_nats (r : List Nat) : unN (.tuple (natsD r)) = r := by
  show (natsD r).map _ = r
  unfold natsD
  rw [List.map_map]
  refine (List.map_congr_left fun x _ => ?_).trans (List.map_id r)
  exact Int.toNat_natCast x
/-- a frozen list and a new one, not frozen -/
theorem yq_addLx {f g : Ev → Res} {env : Ev} {a b : List PyData} (h : YQ f env (.own (.fz (.list a)))) (h2 : YQ g env (.own (.lst (b.map .fz)))) (hl : a.length + b.length ≤ SZ) : YQ (dG kAdd [f, g]) env (.own (.lst ((a ++ b).map .fz))) := by
  refine yq_G (b := true) (ys_cons h (ys_cons h2 ys_nil)) ?_
  have k1 : kAddP [.own (.fz (.list a)), .own (.lst (b.map .fz))] = none := by
    have hv : valDs [.own (.fz (.list a)), .own (.lst (b.map .fz))] = some [.list a, .list b] := by
      have v1 : valD (.own (.fz (.list a))) = some (.list a) := rfl
      have v2 : valD (.own (.lst (b.map .fz))) = some (.list b) := frz_lst _
      simp only [valDs, v1, v2, Option.bind_some, Option.map_some]
    unfold kAddP
    simp only [kPl, hv, Option.bind_some]
    rfl
  have k2 : kAddT [.own (.fz (.list a)), .own (.lst (b.map .fz))] = none := rfl
  have lb : lv (.own (.lst (b.map M.fz))) = some b := by
    unfold lv
    exact leaves_fz _
  have la : lv (.own (.fz (.list a))) = some a := rfl
  have k3 : kAddL [.own (.fz (.list a)), .own (.lst (b.map .fz))] = some (.own (.lst ((a ++ b).map .fz)), true) := by
    simp only [kAddL, la, lb, Option.bind_some]
    rw [if_pos hl]
  unfold kAdd
  rw [k1, k2, k3]
  rfl
/-- x.index(y), x a list of numbers -/
theorem yq_idxL {f g : Ev → Res} {env : Ev} {v : Val} {l : List Nat} {x : Nat} (h : YQ f env v) (hx : lv v = some (natsD l)) (hv : lsV v = true) (hg : YQ g env (.own (.fz (.int (x : Nat))))) (hm : x ∈ l) : YQ (dIdx f g) env (.own (.fz (.int (l.idxOf x : Nat)))) := by
  obtain ⟨q0, e0, _⟩ := id h
  obtain ⟨q, e, nn⟩ := yq_index1 h hx hv hg hm
  refine ⟨q, ?_, nn⟩
  unfold dIdx
  rw [if_pos (by rw [e0]; exact hv)]
  exact e
def fzO : Option PyData → Option M
  | none => none
  | some d => some (.fz d)
end Q

set_option Elab.async false
set_option linter.all false
set_option maxRecDepth 100000
set_option maxHeartbeats 4000000
/-! a, b, c = (d, e, f) for names of any kind. -/
namespace Q
open PySem PySem.Spec PyProof.Rows L2
section
variable {X : Cx} {io : Nat → Bool} {f g h : Ev → Res} {pos : Pos}
theorem ss_par3c {i j l : Nat} {x y z : Str} {b c d : Expr} {px py pz pt : Pos} {kt k2 pt2} (hc : X.calm = true) (hN : X.N.Nodup) (ha : SA X (evs [f, g, h]) [b, c, d]) (hi : X.N[i]? = some x := by rfl) (hj : X.N[j]? = some y := by rfl) (hl : X.N[l]? = some z := by rfl)
    (hx : Loc X.env.scope x := by first | exact Or.inl rfl | exact Or.inr rfl) (hy : Loc X.env.scope y := by first | exact Or.inl rfl | exact Or.inr rfl) (hz : Loc X.env.scope z := by first | exact Or.inl rfl | exact Or.inr rfl)
    (fx : X.fn x = true ∨ X.env.scope.names.lookup x = some .local := by first | exact .inl rfl | exact .inr rfl | assumption) (fy : X.fn y = true ∨ X.env.scope.names.lookup y = some .local := by first | exact .inl rfl | exact .inr rfl | assumption) (fz : X.fn z = true ∨ X.env.scope.names.lookup z = some .local := by first | exact .inl rfl | exact .inr rfl | assumption)
    (hio : io i = false := by rfl) (hjo : io j = false := by rfl) (hlo : io l = false := by rfl)
    (hs : swapsWithSole [.Tuple [.Name x px, .Name y py, .Name z pz] kt pt] (.Tuple [b, c, d] k2 pt2) pos.line X.env = pure false := by rfl) (hw : swappedStores [.Tuple [.Name x px, .Name y py, .Name z pz] kt pt] (.Tuple [b, c, d] k2 pt2) X.env = pure none := by rfl)
    (h1 : (assignEach [.Tuple [.Name x px, .Name y py, .Name z pz] kt pt] X.env).map (·.2) = [assign (.Tuple [.Name x px, .Name y py, .Name z pz] kt pt) X.env] := by rfl) (hn : (assignEach [.Name x px, .Name y py, .Name z pz] X.env).length = 3 := by rfl) (hst : (assignEach [.Name x px, .Name y py, .Name z pz] X.env).findIdx? (·.1) = none := by rfl)
    (e1 : (assignEach [.Name x px, .Name y py, .Name z pz] X.env).map (·.2) = assign (.Name x px) X.env :: (assignEach [.Name y py, .Name z pz] X.env).map (·.2) := by rfl) (e2 : (assignEach [.Name y py, .Name z pz] X.env).map (·.2) = assign (.Name y py) X.env :: (assignEach [.Name z pz] X.env).map (·.2) := by rfl) (e3 : (assignEach [.Name z pz] X.env).map (·.2) = assign (.Name z pz) X.env :: (assignEach [] X.env).map (·.2) := by rfl) :
    SS X io (dPar3 i j l f g h) (.Assign [.Tuple [.Name x px, .Name y py, .Name z pz] kt pt] (.Tuple [b, c, d] k2 pt2) pos) := fun W tk => PS.imp (ps_asg ((tup_ ha : SE X (dTup [f, g, h]) (.Tuple [b, c, d] k2 pt2)) W tk) (pg_tup hc (pgs_cons (pg_name hN hi hx fx) (pgs_cons (pg_name hN hj hy fy) (pgs_cons (pg_name hN hl hz fz) pgs_nil e3) e2) e1) hn hst) hs hw h1) fun D σ H ⟨Z, O, env, I, hh⟩ => by
  refine ⟨Z, O, env, I, ?_⟩
  unfold dPar3 at hh
  split at hh
  · rename_i m n o e1 q ef
    have et : dTup [f, g, h] env = .ok (.own (mkTup [m, n, o])) e1 q.n := by
      unfold dTup dF
      rw [ef]
      rfl
    rw [et]
    split at hh
    · rename_i hlt
      intro v H' p
      obtain ⟨O', F, I', r, nd, nz, st⟩ := p.own1
      obtain ⟨a, xs, rfl, hq, rs⟩ := r.unTup
      cases rs with
      | cons r1 rr =>
        cases rr with
        | cons r2 rr =>
          cases rr with
          | cons r3 rr =>
            cases rr
            rw [List.append_nil] at *
            obtain ⟨O2, I2, st2, gg⟩ := I'.put2 hlt.1 r1 nd nz st
            have nd2 := (List.nodup_append.mp nd).2.1
            obtain ⟨O3, I3, st3, gg2⟩ := I2.put2 (i := j) (by rw [List.length_set]; exact hlt.2.1) (r2.imp gg) nd2 (fun a ha => nz a (List.mem_append_right _ ha)) st2
            obtain ⟨O4, I4, st4⟩ := I3.put (i := l) (by rw [List.length_set, List.length_set]; exact hlt.2.2) ((r3.imp gg).imp gg2) (List.nodup_append.mp nd2).2.1 (fun a ha => nz a (List.mem_append_right _ (List.mem_append_right _ ha))) st3
            exact ⟨a, _, rfl, hq.t, rfl, _, _, rfl, _, _, rfl, _, _, rfl, rfl, hh _ _ ⟨⟨O4, I4, st4⟩, (Held.set hio).trans ((Held.set hjo).trans (Held.set hlo))⟩⟩
    · exact hh.elim
  · exact hh.elim
  · rename_i c e1 ef
    have et : dTup [f, g, h] env = .exn c e1 := by
      unfold dTup dF
      rw [ef]
    rw [et]
    exact EndS.exn hh
  · exact hh.elim
end
end Q

set_option Elab.async false
set_option linter.all false
set_option maxRecDepth 100000
set_option maxHeartbeats 4000000
/-! max of a list of data. -/
namespace Q
open PySem PySem.Spec PyProof.Rows L2
theorem maxD_mem (d : PyData) (ds : List PyData) : PySem.W.maxD d ds ∈ d :: ds := by
  unfold PySem.W.maxD
  induction ds generalizing d with
  | nil => exact List.mem_cons_self
  | cons z zs ih =>
    rw [List.foldl_cons]
    have this := ih (if PySem.W.dataLt d z then z else d)
    rcases List.mem_cons.mp this with e | hm
    · rw [e]
      split
      · exact List.mem_cons_of_mem _ List.mem_cons_self
      · exact List.mem_cons_self
    · exact List.mem_cons_of_mem _ (List.mem_cons_of_mem _ hm)
section
variable {X : Cx}
theorem callv_maxD (hc : X.calm = true) (hu : X.A.units + 65 < cLine) : CallV X (.builtin "max") (kPl (oBest PySem.W.maxD)) :=
  callv_best hc hu maxD_mem fun hh {st l vs x xs as QQ} hl hr ha hd h => PySem.W.max_list_data hh hl hr ha hd h
def kMaxA (xs : List Val) : Option (Val × Bool) := (kPl oMax xs).orElse fun _ => kPl (oBest PySem.W.maxD) xs
theorem callv_maxA (hc : X.calm = true) (hu : X.A.units + 65 < cLine) : CallV X (.builtin "max") kMaxA := (callv_max hc).or (callv_maxD hc hu)
end
/-- nothing is greater than the greatest -/
theorem maxD_most {d : PyData} {ds : List PyData} : ∀ x ∈ d :: ds, PySem.W.dataLt (PySem.W.maxD d ds) x = false := by
  have irr : ∀ x, PySem.W.dataLt x x = false := fun x => PyProof.Rows.lex_irrefl (O := PyProof.Rows.itemOrd) _
  have tr : ∀ x y z, PySem.W.dataLt x y = true → PySem.W.dataLt y z = true → PySem.W.dataLt x z = true := fun x y z => PyProof.Rows.lex_trans (O := PyProof.Rows.itemOrd) _ _ _
  have key : ∀ (ds : List PyData) (d : PyData) (seen : List PyData), (∀ x ∈ seen, PySem.W.dataLt d x = false) → ∀ x, x ∈ seen ∨ x ∈ d :: ds → PySem.W.dataLt (PySem.W.maxD d ds) x = false := by
    intro ds
    induction ds with
    | nil =>
      intro d seen h x hx
      rcases hx with hx | hx
      · exact h x hx
      · rw [List.mem_singleton.mp hx]; exact irr d
    | cons y ds ih =>
      intro d seen h x hx
      show PySem.W.dataLt (PySem.W.maxD (if PySem.W.dataLt d y = true then y else d) ds) x = false
      by_cases hy : PySem.W.dataLt d y = true
      · rw [if_pos hy]
        refine ih y (d :: seen) (fun z hz => ?_) x ?_
        · cases hzy : PySem.W.dataLt y z with
          | false => rfl
          | true =>
            have hzd := tr d y z hy hzy
            rcases List.mem_cons.mp hz with e | hz
            · rw [e, irr] at hzd; cases hzd
            · rw [h z hz] at hzd; cases hzd
        · rcases hx with hx | hx
          · exact .inl (List.mem_cons_of_mem _ hx)
          · rcases List.mem_cons.mp hx with e | hx
            · exact .inl (by rw [e]; exact List.mem_cons_self)
            · exact .inr hx
      · have hy : PySem.W.dataLt d y = false := by simpa using hy
        rw [hy]
        refine ih d (y :: seen) (fun z hz => ?_) x ?_
        · rcases List.mem_cons.mp hz with e | hz
          · rw [e]; exact hy
          · exact h z hz
        · rcases hx with hx | hx
          · exact .inl (List.mem_cons_of_mem _ hx)
          · rcases List.mem_cons.mp hx with e | hx
            · exact .inr (by rw [e]; exact List.mem_cons_self)
            · rcases List.mem_cons.mp hx with e | hx
              · exact .inl (by rw [e]; exact List.mem_cons_self)
              · exact .inr (List.mem_cons_of_mem _ hx)
  intro x hx
  exact key ds d [] (fun _ h => by cases h) x (.inr hx)
theorem yq_maxT {f : Ev → Res} {env : Ev} {x : Val} {r : PyData} {ts : List (List Int)} {t : List Int} (h : YQ f env x) (hx : valD x = some (.list ((t :: ts).map fun l => .tuple (l.map .int)))) (hr : PySem.W.maxD (.tuple (t.map .int)) (ts.map fun l => .tuple (l.map .int)) = r) : YQ (dG kMaxA [f]) env (.own (.fz r)) := yq_G (b := false) (ys_cons h ys_nil) (by
  have e : valDs [x] = some [.list ((t :: ts).map fun l => .tuple (l.map .int))] := by simp only [valDs, hx, Option.bind_some, Option.map_some]
  have e1 : kPl oMax [x] = none := by
    simp only [kPl, e, Option.bind_some, oMax, List.map_cons]
    rfl
  have al : alikes ((t :: ts).map fun l => .tuple (l.map .int)) = true := by
    unfold alikes
    rw [Bool.and_eq_true, List.all_eq_true, List.all_eq_true]
    refine ⟨fun a ha => ?_, fun a ha => ?_⟩
    · rw [List.all_eq_true]
      intro b hb
      obtain ⟨p, _, rfl⟩ := List.mem_map.mp ha
      obtain ⟨q, _, rfl⟩ := List.mem_map.mp hb
      exact alike_intsD p q
    · obtain ⟨p, _, rfl⟩ := List.mem_map.mp ha
      rfl
  have sh : SeqAt.shaped (.list ((t :: ts).map fun l => .tuple (l.map .int))) = true := sh_shaped (k := 2) (sh_lst (k := 1) fun a ha => by
    obtain ⟨p, _, rfl⟩ := List.mem_map.mp ha
    exact sh_tup (k := 0) fun y hy => by
      obtain ⟨i, _, rfl⟩ := List.mem_map.mp hy
      exact sh_int) (by decide)
  have nl : noL r = true := by
    have hm := maxD_mem (.tuple (t.map .int)) (ts.map fun l => .tuple (l.map .int))
    rw [hr, ← List.map_cons (f := fun l : List Int => PyData.tuple (l.map .int))] at hm
    obtain ⟨p, _, rfl⟩ := List.mem_map.mp hm
    exact noLs_ints p
  have e2 : kPl (oBest PySem.W.maxD) [x] = some (.own (.fz r), false) := by
    have : oBest PySem.W.maxD [.list ((t :: ts).map fun l => .tuple (l.map .int))] = some r := by
      rw [List.map_cons] at al sh ⊢
      show (if (alikes _ && SeqAt.shaped _ && noL (PySem.W.maxD (.tuple (t.map .int)) (ts.map fun l => .tuple (l.map .int)))) = true then some (PySem.W.maxD (.tuple (t.map .int)) (ts.map fun l => .tuple (l.map .int))) else none) = some r
      rw [hr, al, sh, nl]
      rfl
    simp only [kPl, e, Option.bind_some, this, Option.map_some]
  unfold kMaxA
  rw [e1, e2]; rfl)
end Q

set_option Elab.async false
set_option linter.all false
set_option maxRecDepth 100000
set_option maxHeartbeats 8000000
namespace Q
open PySem PySem.Spec PyProof.Rows L2
abbrev prg : Program := PySem.Challenge.pw_fairloaves_k45_better_worse_and_middle_c
def top (i : Nat) : Stmt := prg.main.body.getD i (.Pass ⟨0, 0, 0, 0⟩)
def c_MOST_PEOPLE : PyData := (.int 6)
def consts : List (Str × PyData) := [("MOST_PEOPLE", c_MOST_PEOPLE)]
def facts : List He.Fa := [.glo "is_whole", .glo "is_order", .glo "is_orders", .glo "turns_of", .glo "check_sides", .glo "courted", .glo "first_best", .glo "second_best", .glo "found_pair", .glo "check_pairs", .glo "every_rest", .glo "better_of", .glo "worse_of", .glo "middle_rest", .glo "_law_draw", .glo "_law_take", .glo "_law_perms", .glo "_law_order", .glo "_law_unrest", .glo "_law_rests", .glo "_law_sides", .glo "_law_malformed", .glo "law", .free "abs", .free "all", .free "bool", .free "int", .free "isinstance", .free "len", .free "list", .free "max", .free "min", .free "range", .free "sorted", .free "tuple", .glo "Malformed", .exc "Malformed", .exm "Malformed" "Malformed" true]
abbrev s_is_whole : Stmt := top 4
abbrev s_is_order : Stmt := top 7
abbrev s_is_orders : Stmt := top 8
abbrev s_turns_of : Stmt := top 9
abbrev s_check_sides : Stmt := top 11
abbrev s_courted : Stmt := top 12
abbrev s_first_best : Stmt := top 13
abbrev s_second_best : Stmt := top 14
abbrev s_found_pair : Stmt := top 15
abbrev s_check_pairs : Stmt := top 16
abbrev s_every_rest : Stmt := top 17
abbrev s_better_of : Stmt := top 18
abbrev s_worse_of : Stmt := top 19
abbrev s_middle_rest : Stmt := top 20
abbrev s__law_draw : Stmt := top 22
abbrev s__law_take : Stmt := top 23
abbrev s__law_perms : Stmt := top 24
abbrev s__law_order : Stmt := top 25
abbrev s__law_unrest : Stmt := top 26
abbrev s__law_rests : Stmt := top 27
abbrev s__law_sides : Stmt := top 28
abbrev s__law_malformed : Stmt := top 29
abbrev s_law : Stmt := top 30
def fns : List He.DefD := [defAt s_is_whole "is_whole", defAt s_is_order "is_order", defAt s_is_orders "is_orders", defAt s_turns_of "turns_of", defAt s_check_sides "check_sides", defAt s_courted "courted", defAt s_first_best "first_best", defAt s_second_best "second_best", defAt s_found_pair "found_pair", defAt s_check_pairs "check_pairs", defAt s_every_rest "every_rest", defAt s_better_of "better_of", defAt s_worse_of "worse_of", defAt s_middle_rest "middle_rest", defAt s__law_draw "_law_draw", defAt s__law_take "_law_take", defAt s__law_perms "_law_perms", defAt s__law_order "_law_order", defAt s__law_unrest "_law_unrest", defAt s__law_rests "_law_rests", defAt s__law_sides "_law_sides", defAt s__law_malformed "_law_malformed", defAt s_law "law"]
def N_is_whole : List Str := ["value"]
def p_is_whole : List Str := ["value"]
def i_is_whole : Nat → Bool := fun i => false
def d_is_whole : Ev → Out :=
  dRet (dAndV (dF id (kIsi .int) [dPk 0]) (dF id kNot [dF id (kIsi .bool) [dPk 0]]))
def N_is_order : List Str := ["value", "n", "item"]
def p_is_order : List Str := ["value", "n"]
def i_is_order : Nat → Bool := fun i => false
def d_is_order : Ev → Out :=
  dSeq (dIfS (dIf (dIf (dTru (dF id (kIsi .tuple) [dPk 0])) (dLit (.bool false)) (dLit (.bool true))) (dLit (.bool true)) (dIf (dG (kPl oNe) [dG (kLen) [dPk 0], dPk 1]) (dLit (.bool true)) (dIf (dTru (dG (kPl oAll) [dLc (gNm 2) (dIt (dTk 0)) (dLit (.bool true)) (dCall 1 d_is_whole [dPk 2]) [2]])) (dLit (.bool false)) (dLit (.bool true))))) (dRet (dLit (.bool false))) (dNx))
    (dRet (dG (kPl oEq) [dG (kSortA) [dPk 0], dG kLRng [dPk 1]]))
def N_is_orders : List Str := ["value", "order"]
def p_is_orders : List Str := ["value"]
def i_is_orders : Nat → Bool := fun i => false
def d_is_orders : Ev → Out :=
  dSeq (dIfS (dIf (dIf (dTru (dF id (kIsi .tuple) [dPk 0])) (dLit (.bool false)) (dLit (.bool true))) (dLit (.bool true)) (dIf (dChain (fun i j => decide (i ≤ j)) (fun i j => decide (i ≤ j)) (dLit (.int 1)) (dG (kLen) [dPk 0]) (dLit c_MOST_PEOPLE)) (dLit (.bool false)) (dLit (.bool true)))) (dRet (dLit (.bool false))) (dNx))
    (dRet (dG (kPl oAll) [dLc (gNm 1) (dIt (dTk 0)) (dLit (.bool true)) (dCall 3 d_is_order [dPk 1, dG (kLen) [dPk 0]]) [1]]))
def N_turns_of : List Str := ["n", "found", "_", "row", "x"]
def p_turns_of : List Str := ["n"]
def i_turns_of : Nat → Bool := fun i => false
def d_turns_of : Ev → Out :=
  dSeq (dSet 1 (dFr (dLst [dTup []])))
    (dSeq (dFor (gNm 2) (dG kRng [dPk 0]) (dSetF 1 (dLc2 (gNm 3) (dIt (dTk 1)) (dLit (.bool true)) (gNm 4) (dG kRng [dPk 0]) (dG (kPl oNin) [dPk 4, dPk 3]) (dG kAdd [dPk 3, dTup [dTk 4]]) [3, 4] [4])))
    (dRet (dTk 1)))
def N_check_sides : List Str := ["one", "two"]
def p_check_sides : List Str := ["one", "two"]
def i_check_sides : Nat → Bool := fun i => false
def d_check_sides : Ev → Out :=
  dIfS (dIf (dIf (dTru (dCall 2 d_is_orders [dPk 0])) (dLit (.bool false)) (dLit (.bool true))) (dLit (.bool true)) (dIf (dIf (dTru (dCall 2 d_is_orders [dPk 1])) (dLit (.bool false)) (dLit (.bool true))) (dLit (.bool true)) (dG (kPl oNe) [dG (kLen) [dPk 0], dG (kLen) [dPk 1]]))) (dRaise "Malformed") (dNx)
def N_courted : List Str := ["one", "two", "n", "place", "holder", "free", "i", "k"]
def p_courted : List Str := ["one", "two"]
def i_courted : Nat → Bool := fun i => false
noncomputable def d_courted : Ev → Out :=
  dSeq (dSet 2 (dG (kLen) [dPk 0]))
    (dSeq (dPar3 3 4 5 (dG kMul [dLst [dLit (.int 0)], dPk 2]) (dG kMul [dLst [dLit .none], dPk 2]) (dG kLRng [dPk 2]))
    (dSeq (dWhile (dG (kPl oGt) [dG (kLen) [dPk 5], dLit (.int 0)]) (dSeq (dSet 6 (dPop 5 (dLit (.int 0))))
    (dSeq (dSet 7 (dFr (dIx (dIx (dPk 0) (dPk 6)) (dIx (dPk 3) (dPk 6)))))
    (dSeq (dAugP 3 (fun i j => some (i + j)) (dPk 6) (dLit (.int 1)))
    (dIfS (dG (kIs false) [dIx (dPk 4) (dPk 7), dLit .none]) (dAsg (gPut 4 (dPk 7)) (dTk 6)) (dIfS (dG (kPl oLt) [dIdx (dIx (dPk 1) (dPk 7)) (dPk 6), dIdx (dIx (dPk 1) (dPk 7)) (dIx (dPk 4) (dPk 7))]) (dSeq (dEx (dApp 5 (dIx (dPk 4) (dPk 7))))
    (dAsg (gPut 4 (dPk 7)) (dTk 6))) (dEx (dApp 5 (dTk 6)))))))))
    (dRet (dG (kTupOf) [dLc (gNm 6) (dG kRng [dPk 2]) (dLit (.bool true)) (dIdx (dPk 4) (dPk 6)) [6]]))))
def N_first_best : List Str := ["one", "two"]
def p_first_best : List Str := ["one", "two"]
def i_first_best : Nat → Bool := fun i => false
noncomputable def d_first_best : Ev → Out :=
  dSeq (dEx (dCall 2 d_check_sides [dPk 0, dPk 1]))
    (dRet (dCall 8 d_courted [dPk 0, dPk 1]))
def N_second_best : List Str := ["one", "two", "found", "i"]
def p_second_best : List Str := ["one", "two"]
def i_second_best : Nat → Bool := fun i => false
noncomputable def d_second_best : Ev → Out :=
  dSeq (dEx (dCall 2 d_check_sides [dPk 0, dPk 1]))
    (dSeq (dSet 2 (dCall 8 d_courted [dPk 1, dPk 0]))
    (dRet (dG (kTupOf) [dLc (gNm 3) (dG kRng [dG (kLen) [dPk 0]]) (dLit (.bool true)) (dIdx (dPk 2) (dPk 3)) [3]])))
def N_found_pair : List Str := ["one", "two", "pairs", "i", "k"]
def p_found_pair : List Str := ["one", "two", "pairs"]
def i_found_pair : Nat → Bool := fun i => false
def d_found_pair : Ev → Out :=
  dSeq (dFor (gNm 3) (dG kRng [dG (kLen) [dPk 0]]) (dFor (gNm 4) (dIt (dF Ql.n (kSl1 false) [dIx (dPk 0) (dPk 3), dIdx (dIx (dPk 0) (dPk 3)) (dIx (dPk 2) (dPk 3))])) (dIfS (dG (kPl oLt) [dIdx (dIx (dPk 1) (dPk 4)) (dPk 3), dIdx (dIx (dPk 1) (dPk 4)) (dIdx (dPk 2) (dPk 4))]) (dRet (dTup [dTk 3, dTk 4])) (dNx))))
    (dRet (dLit .none))
def N_check_pairs : List Str := ["one", "two", "pairs"]
def p_check_pairs : List Str := ["one", "two", "pairs"]
def i_check_pairs : Nat → Bool := fun i => false
def d_check_pairs : Ev → Out :=
  dSeq (dEx (dCall 2 d_check_sides [dPk 0, dPk 1]))
    (dIfS (dIf (dTru (dCall 3 d_is_order [dPk 2, dG (kLen) [dPk 0]])) (dLit (.bool false)) (dLit (.bool true))) (dRaise "Malformed") (dNx))
def N_every_rest : List Str := ["one", "two", "pairs"]
def p_every_rest : List Str := ["one", "two"]
def i_every_rest : Nat → Bool := fun i => false
def d_every_rest : Ev → Out :=
  dRet (dFr (dLc (gNm 2) (dIt (dCall 5 d_turns_of [dG (kLen) [dPk 0]])) (dG (kIs false) [dCall 5 d_found_pair [dPk 0, dPk 1, dPk 2], dLit .none]) (dTk 2) [2]))
def N_better_of : List Str := ["one", "two", "pairs", "others", "i", "k"]
def p_better_of : List Str := ["one", "two", "pairs", "others"]
def i_better_of : Nat → Bool := fun i => false
def d_better_of : Ev → Out :=
  dSeq (dEx (dCall 3 d_check_pairs [dPk 0, dPk 1, dPk 2]))
    (dSeq (dEx (dCall 3 d_check_pairs [dPk 0, dPk 1, dPk 3]))
    (dSeq (dIfS (dIf (dG (kIs true) [dCall 5 d_found_pair [dPk 0, dPk 1, dPk 2], dLit .none]) (dLit (.bool true)) (dG (kIs true) [dCall 5 d_found_pair [dPk 0, dPk 1, dPk 3], dLit .none])) (dRaise "Malformed") (dNx))
    (dRet (dG (kTupOf) [dLc (gNm 4) (dG kRng [dG (kLen) [dPk 0]]) (dLit (.bool true)) (dIx (dG (kMinA) [dLc (gNm 5) (dIt (dTup [dFr (dIx (dPk 2) (dPk 4)), dFr (dIx (dPk 3) (dPk 4))])) (dLit (.bool true)) (dTup [dIdx (dIx (dPk 0) (dPk 4)) (dPk 5), dTk 5]) [5]]) (dLit (.int 1))) [4]]))))
def N_worse_of : List Str := ["one", "two", "pairs", "others", "i", "k"]
def p_worse_of : List Str := ["one", "two", "pairs", "others"]
def i_worse_of : Nat → Bool := fun i => false
def d_worse_of : Ev → Out :=
  dSeq (dEx (dCall 3 d_check_pairs [dPk 0, dPk 1, dPk 2]))
    (dSeq (dEx (dCall 3 d_check_pairs [dPk 0, dPk 1, dPk 3]))
    (dSeq (dIfS (dIf (dG (kIs true) [dCall 5 d_found_pair [dPk 0, dPk 1, dPk 2], dLit .none]) (dLit (.bool true)) (dG (kIs true) [dCall 5 d_found_pair [dPk 0, dPk 1, dPk 3], dLit .none])) (dRaise "Malformed") (dNx))
    (dRet (dG (kTupOf) [dLc (gNm 4) (dG kRng [dG (kLen) [dPk 0]]) (dLit (.bool true)) (dIx (dG (kMaxA) [dLc (gNm 5) (dIt (dTup [dFr (dIx (dPk 2) (dPk 4)), dFr (dIx (dPk 3) (dPk 4))])) (dLit (.bool true)) (dTup [dIdx (dIx (dPk 0) (dPk 4)) (dPk 5), dTk 5]) [5]]) (dLit (.int 1))) [4]]))))
def N_middle_rest : List Str := ["one", "two", "k", "rests", "found", "i", "pairs"]
def p_middle_rest : List Str := ["one", "two", "k"]
def i_middle_rest : Nat → Bool := fun i => false
def d_middle_rest : Ev → Out :=
  dSeq (dEx (dCall 2 d_check_sides [dPk 0, dPk 1]))
    (dSeq (dSet 3 (dCall 3 d_every_rest [dPk 0, dPk 1]))
    (dSeq (dIfS (dIf (dIf (dTru (dF id (kIsi .int) [dPk 2])) (dLit (.bool false)) (dLit (.bool true))) (dLit (.bool true)) (dIf (dTru (dF id (kIsi .bool) [dPk 2])) (dLit (.bool true)) (dIf (dChain (fun i j => decide (i ≤ j)) (fun i j => decide (i < j)) (dLit (.int 0)) (dPk 2) (dG (kLen) [dPk 3])) (dLit (.bool false)) (dLit (.bool true))))) (dRaise "Malformed") (dNx))
    (dSeq (dSet 4 (dLst []))
    (dSeq (dFor (gNm 5) (dG kRng [dG (kLen) [dPk 0]]) (dEx (dApp 4 (dIx (dIx (dG (kSort) [dLc (gNm 6) (dIt (dTk 3)) (dLit (.bool true)) (dTup [dIdx (dIx (dPk 0) (dPk 5)) (dIx (dPk 6) (dPk 5)), dFr (dIx (dPk 6) (dPk 5))]) [6]]) (dPk 2)) (dLit (.int 1))))))
    (dRet (dG (kTupOf) [dPk 4]))))))
def N__law_draw : List Str := ["script", "seed", "cell"]
def p__law_draw : List Str := ["script"]
def i__law_draw : Nat → Bool := fun i => false
def d__law_draw : Ev → Out :=
  dSeq (dSet 1 (dLit (.int 7)))
    (dSeq (dFor (gNm 2) (dIt (dTk 0)) (dSet 1 (dG (kPl oMod) [dG (kPl oInt) [dG kAdd [dG kAdd [dG kMul [dPk 1, dLit (.int 48271)], dG (kPl oMod) [dG (kPl oAbs) [dG (kPl oInt) [dPk 2]], dLit (.int 65521)]], dLit (.int 1)]], dLit (.int 2147483647)])))
    (dRet (dLst [dFr (dLc (gNm 2) (dIt (dTk 0)) (dLit (.bool true)) (dG (kPl oAbs) [dG (kPl oInt) [dPk 2]]) [2]), dOp oNeg [dLit (.int 1)], dLit (.int 0), dTk 1])))
def N__law_take : List Str := ["draw", "many", "found"]
def p__law_take : List Str := ["draw", "many"]
def i__law_take : Nat → Bool := fun i => i == 0
def d__law_take : Ev → Out :=
  dSeq (dIfS (dG (kPl oEq) [dIx (dPk 0) (dLit (.int 2)), dLit (.int 0)]) (dSeq (dAsg (gPut 0 (dLit (.int 1))) (dG kAdd [dIx (dPk 0) (dLit (.int 1)), dLit (.int 1)]))
    (dSeq (dIfS (dG (kPl oLt) [dIx (dPk 0) (dLit (.int 1)), dG (kLen) [dIx (dPk 0) (dLit (.int 0))]]) (dAsg (gPut 0 (dLit (.int 2))) (dIx (dIx (dPk 0) (dLit (.int 0))) (dIx (dPk 0) (dLit (.int 1))))) (dNx))
    (dIfS (dG (kPl oEq) [dIx (dPk 0) (dLit (.int 2)), dLit (.int 0)]) (dSeq (dAsg (gPut 0 (dLit (.int 3))) (dG (kPl oMod) [dG (kPl oInt) [dG kAdd [dG kMul [dIx (dPk 0) (dLit (.int 3)), dLit (.int 48271)], dLit (.int 11)]], dLit (.int 2147483647)]))
    (dAsg (gPut 0 (dLit (.int 2))) (dIx (dPk 0) (dLit (.int 3))))) (dNx)))) (dNx))
    (dSeq (dSet 2 (dG (kPl oMod) [dG (kPl oInt) [dIx (dPk 0) (dLit (.int 2))], dPk 1]))
    (dSeq (dAsg (gPut 0 (dLit (.int 2))) (dG (kPl oFdiv) [dIx (dPk 0) (dLit (.int 2)), dPk 1]))
    (dRet (dTk 2))))
def N__law_perms : List Str := ["many", "found", "k", "longer", "row", "x"]
def p__law_perms : List Str := ["many"]
def i__law_perms : Nat → Bool := fun i => false
def d__law_perms : Ev → Out :=
  dSeq (dSet 1 (dFr (dLst [dTup []])))
    (dSeq (dFor (gNm 2) (dG kRng [dPk 0]) (dSeq (dSet 3 (dFr (dLst [])))
    (dSeq (dFor (gNm 4) (dIt (dTk 1)) (dSet 3 (dFr (dG kAdd [dPk 3, dLc (gNm 5) (dG kRng [dPk 0]) (dG (kPl oNin) [dPk 5, dPk 4]) (dG kAdd [dPk 4, dTup [dTk 5]]) [5]]))))
    (dSet 1 (dTk 3)))))
    (dRet (dTk 1)))
def N__law_order : List Str := ["draw", "many", "left", "found", "k"]
def p__law_order : List Str := ["draw", "many"]
def i__law_order : Nat → Bool := fun i => i == 0
def d__law_order : Ev → Out :=
  dSeq (dSet 2 (dG kLRng [dPk 1]))
    (dSeq (dSet 3 (dLst []))
    (dSeq (dFor (gNm 4) (dG kRng [dPk 1]) (dEx (dApp 3 (dPop 2 (dCallI 3 d__law_take [.io 0, .v (dG (kLen) [dPk 2])])))))
    (dRet (dG (kTupOf) [dPk 3]))))
def N__law_unrest : List Str := ["one", "two", "pairs", "i", "k"]
def p__law_unrest : List Str := ["one", "two", "pairs"]
def i__law_unrest : Nat → Bool := fun i => false
def d__law_unrest : Ev → Out :=
  dSeq (dFor (gNm 3) (dG kRng [dG (kLen) [dPk 0]]) (dFor (gNm 4) (dIt (dF Ql.n (kSl1 false) [dIx (dPk 0) (dPk 3), dIdx (dIx (dPk 0) (dPk 3)) (dIx (dPk 2) (dPk 3))])) (dIfS (dG (kPl oLt) [dIdx (dIx (dPk 1) (dPk 4)) (dPk 3), dIdx (dIx (dPk 1) (dPk 4)) (dIdx (dPk 2) (dPk 4))]) (dRet (dTup [dTk 3, dTk 4])) (dNx))))
    (dRet (dLit .none))
def N__law_rests : List Str := ["one", "two", "pairs"]
def p__law_rests : List Str := ["one", "two"]
def i__law_rests : Nat → Bool := fun i => false
def d__law_rests : Ev → Out :=
  dRet (dFr (dLc (gNm 2) (dIt (dCall 6 d__law_perms [dG (kLen) [dPk 0]])) (dG (kIs false) [dCall 5 d__law_unrest [dPk 0, dPk 1, dPk 2], dLit .none]) (dTk 2) [2]))
def N__law_sides : List Str := ["draw", "many", "one", "two", "first", "k", "row", "i"]
def p__law_sides : List Str := ["draw", "many"]
def i__law_sides : Nat → Bool := fun i => i == 0
def d__law_sides : Ev → Out :=
  dSeq (dSet 2 (dG (kTupOf) [dLc (gNm 7) (dG kRng [dPk 1]) (dLit (.bool true)) (dCallI 5 d__law_order [.io 0, .v (dTk 1)]) [7]]))
    (dSeq (dSet 3 (dG (kTupOf) [dLc (gNm 7) (dG kRng [dPk 1]) (dLit (.bool true)) (dCallI 5 d__law_order [.io 0, .v (dTk 1)]) [7]]))
    (dSeq (dIfS (dG (kPl oEq) [dCallI 3 d__law_take [.io 0, .v (dLit (.int 3))], dLit (.int 0)]) (dSeq (dSet 4 (dCallI 5 d__law_order [.io 0, .v (dTk 1)]))
    (dSeq (dSet 2 (dG (kTupOf) [dLc (gNm 7) (dG kRng [dPk 1]) (dLit (.bool true)) (dG kAdd [dF Ql.n (kSl1 true) [dPk 4, dPk 7], dF Ql.n (kSl1 false) [dPk 4, dPk 7]]) [7]]))
    (dSeq (dSet 3 (dLst []))
    (dSeq (dFor (gNm 5) (dG kRng [dPk 1]) (dSeq (dSetF 6 (dLc (gNm 7) (dG kRng [dPk 1]) (dG (kPl oEq) [dIx (dIx (dPk 2) (dPk 7)) (dG (kPl oSub) [dPk 1, dLit (.int 1)]), dPk 5]) (dTk 7) [7]))
    (dSeq (dSet 6 (dFr (dG kAdd [dPk 6, dLc (gNm 7) (dG kRng [dPk 1]) (dIf (dG (kPl oNe) [dIx (dIx (dPk 2) (dPk 7)) (dG (kPl oSub) [dPk 1, dLit (.int 1)]), dPk 5]) (dG (kPl oNe) [dIx (dIx (dPk 2) (dPk 7)) (dLit (.int 0)), dPk 5]) (dLit (.bool false))) (dTk 7) [7]])))
    (dEx (dApp 3 (dG (kTupOf) [dG kAdd [dPk 6, dLc (gNm 7) (dG kRng [dPk 1]) (dIf (dG (kPl oEq) [dIx (dIx (dPk 2) (dPk 7)) (dLit (.int 0)), dPk 5]) (dG (kPl oNe) [dIx (dIx (dPk 2) (dPk 7)) (dG (kPl oSub) [dPk 1, dLit (.int 1)]), dPk 5]) (dLit (.bool false))) (dTk 7) [7]]]))))))
    (dSet 3 (dG (kTupOf) [dPk 3])))))) (dNx))
    (dRet (dTup [dTk 2, dTk 3]))))
def N__law_malformed : List Str := ["which", "one", "two", "pairs", "others"]
def p__law_malformed : List Str := ["which", "one", "two", "pairs", "others"]
def i__law_malformed : Nat → Bool := fun i => false
def d__law_malformed : Ev → Out :=
  dSeq (dTry (dIfS (dG (kPl oEq) [dPk 0, dLit (.int 0)]) (dEx (dCall 6 d_better_of [dPk 1, dPk 2, dPk 3, dPk 4])) (dIfS (dG (kPl oEq) [dPk 0, dLit (.int 1)]) (dEx (dCall 6 d_worse_of [dPk 1, dPk 2, dPk 3, dPk 4])) (dEx (dCall 7 d_middle_rest [dPk 1, dPk 2, dPk 4])))) [([("Malformed", true)], dRet (dLit (.bool true)))])
    (dRet (dLit (.bool false)))
def N_law : List Str := ["script", "draw", "many", "one", "two", "rests", "pairs", "others", "better", "worse", "i", "places", "k", "middle", "place", "wild", "row"]
def p_law : List Str := ["script"]
def i_law : Nat → Bool := fun i => false
noncomputable def d_law : Ev → Out :=
  dSeq (dSet 1 (dCall 3 d__law_draw [dPk 0]))
    (dSeq (dSet 2 (dFr (dIx (dLst [dLit (.int 1), dLit (.int 2), dLit (.int 3), dLit (.int 3), dLit (.int 4), dLit (.int 4), dLit (.int 5)]) (dCallI 3 d__law_take [.io 1, .v (dLit (.int 7))]))))
    (dSeq (dAsg (gTp [gNm 3, gNm 4]) (dCallI 8 d__law_sides [.io 1, .v (dTk 2)]))
    (dSeq (dSet 5 (dCall 3 d__law_rests [dPk 3, dPk 4]))
    (dSeq (dSet 6 (dFr (dIx (dPk 5) (dCallI 3 d__law_take [.io 1, .v (dG (kLen) [dPk 5])]))))
    (dSeq (dSet 7 (dFr (dIx (dPk 5) (dCallI 3 d__law_take [.io 1, .v (dG (kLen) [dPk 5])]))))
    (dSeq (dSet 8 (dLst []))
    (dSeq (dSet 9 (dLst []))
    (dSeq (dFor (gNm 10) (dG kRng [dPk 2]) (dSeq (dSet 11 (dFr (dG (kSort) [dLst [dIdx (dIx (dPk 3) (dPk 10)) (dIx (dPk 6) (dPk 10)), dIdx (dIx (dPk 3) (dPk 10)) (dIx (dPk 7) (dPk 10))]])))
    (dSeq (dEx (dApp 8 (dIx (dIx (dPk 3) (dPk 10)) (dIx (dPk 11) (dLit (.int 0))))))
    (dEx (dApp 9 (dIx (dIx (dPk 3) (dPk 10)) (dIx (dPk 11) (dLit (.int 1)))))))))
    (dSeq (dIfS (dIf (dG (kPl oNe) [dCall 6 d_better_of [dPk 3, dPk 4, dPk 6, dPk 7], dG (kTupOf) [dPk 8]]) (dLit (.bool true)) (dG (kPl oNe) [dCall 6 d_worse_of [dPk 3, dPk 4, dPk 6, dPk 7], dG (kTupOf) [dPk 9]])) (dRet (dLit (.bool false))) (dNx))
    (dSeq (dIfS (dIf (dG (kPl oNin) [dG (kTupOf) [dPk 8], dPk 5]) (dLit (.bool true)) (dG (kPl oNin) [dG (kTupOf) [dPk 9], dPk 5])) (dRet (dLit (.bool false))) (dNx))
    (dSeq (dFor (gNm 12) (dG kRng [dG (kLen) [dPk 5]]) (dSeq (dSet 13 (dG (kTupOf) [dLc (gNm 10) (dG kRng [dPk 2]) (dLit (.bool true)) (dIx (dIx (dPk 3) (dPk 10)) (dIx (dG (kSort) [dLc (gNm 16) (dIt (dTk 5)) (dLit (.bool true)) (dIdx (dIx (dPk 3) (dPk 10)) (dIx (dPk 16) (dPk 10))) [16]]) (dPk 12))) [10]]))
    (dIfS (dIf (dG (kPl oNe) [dCall 7 d_middle_rest [dPk 3, dPk 4, dPk 12], dPk 13]) (dLit (.bool true)) (dG (kPl oNin) [dPk 13, dPk 5])) (dRet (dLit (.bool false))) (dNx))))
    (dSeq (dIfS (dIf (dG (kPl oNe) [dCall 7 d_middle_rest [dPk 3, dPk 4, dLit (.int 0)], dCall 2 d_first_best [dPk 3, dPk 4]]) (dLit (.bool true)) (dG (kPl oNe) [dCall 7 d_middle_rest [dPk 3, dPk 4, dG (kPl oSub) [dG (kLen) [dPk 5], dLit (.int 1)]], dCall 4 d_second_best [dPk 3, dPk 4]])) (dRet (dLit (.bool false))) (dNx))
    (dSeq (dSet 14 (dFr (dIx (dLst [dOp oNeg [dLit (.int 1)], dG (kLen) [dPk 5], dLit (.bool true), dLit .none, dLit (.str "0")]) (dCallI 3 d__law_take [.io 1, .v (dLit (.int 5))]))))
    (dSeq (dIfS (dIf (dIf (dTru (dCall 5 d__law_malformed [dLit (.int 2), dPk 3, dPk 4, dTup [], dPk 14])) (dLit (.bool false)) (dLit (.bool true))) (dLit (.bool true)) (dIf (dTru (dCall 5 d__law_malformed [dLit (.int 2), dPk 3, dF Ql.n (kSl1 true) [dPk 4, dLit (.int 1)], dTup [], dLit (.int 0)])) (dLit (.bool false)) (dLit (.bool true)))) (dRet (dLit (.bool false))) (dNx))
    (dSeq (dSet 15 (dFr (dIx (dLst [dCallI 5 d__law_order [.io 1, .v (dTk 2)], dLit .none, dFr (dG kMulA [dTup [dLit (.int 0)], dG kAdd [dPk 2, dLit (.int 1)]]), dFr (dG (kLstOf) [dPk 6])]) (dCallI 3 d__law_take [.io 1, .v (dLit (.int 4))]))))
    (dSeq (dIfS (dG (kPl oIn) [dPk 15, dPk 5]) (dRet (dLit (.bool true))) (dNx))
    (dSeq (dIfS (dIf (dIf (dTru (dCall 5 d__law_malformed [dLit (.int 0), dPk 3, dPk 4, dPk 15, dPk 6])) (dLit (.bool false)) (dLit (.bool true))) (dLit (.bool true)) (dIf (dTru (dCall 5 d__law_malformed [dLit (.int 0), dPk 3, dPk 4, dPk 6, dPk 15])) (dLit (.bool false)) (dLit (.bool true)))) (dRet (dLit (.bool false))) (dNx))
    (dRet (dAndV (dCall 5 d__law_malformed [dLit (.int 1), dPk 3, dPk 4, dPk 15, dPk 6]) (dCall 5 d__law_malformed [dLit (.int 1), dPk 3, dPk 4, dPk 6, dPk 15]))))))))))))))))))))
section
variable {P : Program} {w : World} {K : PySem.W.Frag} {h : Heap} {mg : Str → Option Value} {base : Heap}
theorem sc_is_whole : FnScope N_is_whole p_is_whole (defScope s_is_whole) := ⟨rfl, rfl, rfl, by decide +kernel, rfl, by decide +kernel, by decide +kernel⟩
theorem f_is_whole (X : K.In h) (G : h.Ns mainGlobals mg) (c : He.SaysD facts fns K) (cc : consB K consts = true) : HasF P w K mg base 1 "is_whole" p_is_whole N_is_whole i_is_whole d_is_whole := by
  have b_bool := He.free_ok X G (c.fact 25 (f := .free "bool") rfl)
  have b_int := He.free_ok X G (c.fact 26 (f := .free "int") rfl)
  have b_isinstance := He.free_ok X G (c.fact 27 (f := .free "isinstance") rfl)
  refine hasF (k := 0) X G c 0 0 rfl rfl sc_is_whole (fun _ _ _ _ _ _ us hl => match us, hl with | [_], _ => rfl) fun cdv A outer s H E hr => ?_
  have nd : N_is_whole.Nodup := sc_is_whole.nd
  exact sss_one (ss_ret (se_andV (isi_ .int (pk 0) b_isinstance b_int) (se_one (se_notV (isi_ .bool (pk 0) b_isinstance b_bool)))))
theorem sc_is_order : FnScope N_is_order p_is_order (defScope s_is_order) := ⟨rfl, rfl, rfl, by decide +kernel, rfl, by decide +kernel, by decide +kernel⟩
theorem f_is_order (X : K.In h) (G : h.Ns mainGlobals mg) (c : He.SaysD facts fns K) (cc : consB K consts = true) : HasF P w K mg base 2 "is_order" p_is_order N_is_order i_is_order d_is_order := by
  have b_all := He.free_ok X G (c.fact 24 (f := .free "all") rfl)
  have b_isinstance := He.free_ok X G (c.fact 27 (f := .free "isinstance") rfl)
  have b_len := He.free_ok X G (c.fact 28 (f := .free "len") rfl)
  have b_list := He.free_ok X G (c.fact 29 (f := .free "list") rfl)
  have b_range := He.free_ok X G (c.fact 32 (f := .free "range") rfl)
  have b_sorted := He.free_ok X G (c.fact 33 (f := .free "sorted") rfl)
  have b_tuple := He.free_ok X G (c.fact 34 (f := .free "tuple") rfl)
  have f_is_whole := (f_is_whole (P := P) (w := w) (base := base) X G c cc).mono (k := 1) (by decide)
  refine hasF (k := 1) X G c 1 1 rfl rfl sc_is_order (fun _ _ _ _ _ _ us hl => match us, hl with | [_, _], _ => rfl) fun cdv A outer s H E hr => ?_
  have nd : N_is_order.Nodup := sc_is_order.nd
  exact sss_cons (ss_if ((stw_or (st_not (st_tru (isi_ .tuple (pk 0) b_isinstance b_tuple))) (stw_or (ct (opd_ne hr.units) (cB callv_len (sa_cons (pk 0) (sa_nil)) b_len) (pk 1)) (stw_or1 (st_not (st_tru (cB (callv_all rfl) (sa_cons (se_lc (own := [("item", 2)]) rfl nd (si_val (tk 0)) (blkOk_by (by rfl)) (fun _ _ _ _ _ => nm 2 nd) (fun _ _ _ _ _ => sts_nil) (fun _ _ _ _ _ => (by exact call_ f_is_whole hr (sa_cons (pk 2) (sa_nil))))) (sa_nil)) b_all)))))).st) (sss_one (ss_ret (se_bl))) (sss_nil))
    (sss_one (ss_ret (cv (opd_eq hr.units) (cB callv_sortA (sa_cons (pk 0) (sa_nil)) b_sorted) (se_lrng rfl b_list b_range (pk 1)))))
theorem sc_is_orders : FnScope N_is_orders p_is_orders (defScope s_is_orders) := ⟨rfl, rfl, rfl, by decide +kernel, rfl, by decide +kernel, by decide +kernel⟩
theorem f_is_orders (X : K.In h) (G : h.Ns mainGlobals mg) (c : He.SaysD facts fns K) (cc : consB K consts = true) : HasF P w K mg base 3 "is_orders" p_is_orders N_is_orders i_is_orders d_is_orders := by
  have b_all := He.free_ok X G (c.fact 24 (f := .free "all") rfl)
  have b_isinstance := He.free_ok X G (c.fact 27 (f := .free "isinstance") rfl)
  have b_len := He.free_ok X G (c.fact 28 (f := .free "len") rfl)
  have b_tuple := He.free_ok X G (c.fact 34 (f := .free "tuple") rfl)
  have k_MOST_PEOPLE := con_at X G cc 0 (x := "MOST_PEOPLE") (d := c_MOST_PEOPLE) rfl
  have f_is_order := (f_is_order (P := P) (w := w) (base := base) X G c cc).mono (k := 2) (by decide)
  refine hasF (k := 2) X G c 2 2 rfl rfl sc_is_orders (fun _ _ _ _ _ _ us hl => match us, hl with | [_], _ => rfl) fun cdv A outer s H E hr => ?_
  have nd : N_is_orders.Nodup := sc_is_orders.nd
  exact sss_cons (ss_if ((stw_or (st_not (st_tru (isi_ .tuple (pk 0) b_isinstance b_tuple))) (stw_or1 (st_not (st_chain op_le op_le (se_int) (cB callv_len (sa_cons (pk 0) (sa_nil)) b_len) (se_con k_MOST_PEOPLE))))).st) (sss_one (ss_ret (se_bl))) (sss_nil))
    (sss_one (ss_ret (cB (callv_all rfl) (sa_cons (se_lc (own := [("order", 1)]) rfl nd (si_val (tk 0)) (blkOk_by (by rfl)) (fun _ _ _ _ _ => nm 1 nd) (fun _ _ _ _ _ => sts_nil) (fun _ _ _ _ _ => (by exact call_ f_is_order hr (sa_cons (pk 1) (sa_cons (cB callv_len (sa_cons (pk 0) (sa_nil)) b_len) (sa_nil)))))) (sa_nil)) b_all)))
theorem sc_turns_of : FnScope N_turns_of p_turns_of (defScope s_turns_of) := ⟨rfl, rfl, rfl, by decide +kernel, rfl, by decide +kernel, by decide +kernel⟩
theorem f_turns_of (X : K.In h) (G : h.Ns mainGlobals mg) (c : He.SaysD facts fns K) (cc : consB K consts = true) : HasF P w K mg base 1 "turns_of" p_turns_of N_turns_of i_turns_of d_turns_of := by
  have b_range := He.free_ok X G (c.fact 32 (f := .free "range") rfl)
  refine hasF (k := 0) X G c 3 3 rfl rfl sc_turns_of (fun _ _ _ _ _ _ us hl => match us, hl with | [_], _ => rfl) fun cdv A outer s H E hr => ?_
  have nd : N_turns_of.Nodup := sc_turns_of.nd
  exact sss_cons (set_ 1 nd (se_fr (lst_ (sa_cons (tup_ (sa_nil)) (sa_nil)))))
    (sss_cons (ss_for (passes_of rfl) rfl (si_rng1 rfl b_range (pk 0)) (nm 2 nd) (sss_one (ss_setLc2F (i := 1) (own := [("row", 3), ("x", 4)]) rfl nd rfl rfl (sw_true rfl rfl rfl rfl) (si_val (tk 1)) (blkOk_by (by rfl)) (by rfl) (fun _ _ _ _ _ => nm 3 nd) (fun _ _ _ _ _ => sts_nil) (fun _ _ _ _ _ => si_rng1 rfl b_range (pk 0)) (fun _ _ _ _ _ => nm 4 nd) (fun _ _ _ _ _ => sts_one (ct (opd_nin (room65 hr)) (pk 4) (pk 3))) (fun _ _ _ _ _ => e_add (pk 3) (tup_ (sa_cons (tk 4) (sa_nil)))))))
    (sss_one (ss_ret (tk 1))))
theorem sc_check_sides : FnScope N_check_sides p_check_sides (defScope s_check_sides) := ⟨rfl, rfl, rfl, by decide +kernel, rfl, by decide +kernel, by decide +kernel⟩
theorem f_check_sides (X : K.In h) (G : h.Ns mainGlobals mg) (c : He.SaysD facts fns K) (cc : consB K consts = true) : HasF P w K mg base 4 "check_sides" p_check_sides N_check_sides i_check_sides d_check_sides := by
  have b_len := He.free_ok X G (c.fact 28 (f := .free "len") rfl)
  have g_Malformed := He.glo_ok X G (c.fact 35 (f := .glo "Malformed") rfl)
  have x_Malformed := He.exc_ok (c.fact 36 (f := .exc "Malformed") rfl)
  have f_is_orders := (f_is_orders (P := P) (w := w) (base := base) X G c cc).mono (k := 3) (by decide)
  refine hasF (k := 3) X G c 4 4 rfl rfl sc_check_sides (fun _ _ _ _ _ _ us hl => match us, hl with | [_, _], _ => rfl) fun cdv A outer s H E hr => ?_
  have nd : N_check_sides.Nodup := sc_check_sides.nd
  exact sss_one (ss_if ((stw_or (st_not (st_tru ((by exact call_ f_is_orders hr (sa_cons (pk 0) (sa_nil)))))) (stw_or (st_not (st_tru ((by exact call_ f_is_orders hr (sa_cons (pk 1) (sa_nil)))))) (stw_or1 (ct (opd_ne hr.units) (cB callv_len (sa_cons (pk 0) (sa_nil)) b_len) (cB callv_len (sa_cons (pk 1) (sa_nil)) b_len))))).st) (sss_one (ss_raise rfl x_Malformed.1 g_Malformed x_Malformed.2.1 x_Malformed.2.2.1 x_Malformed.2.2.2 rfl)) (sss_nil))
theorem sc_courted : FnScope N_courted p_courted (defScope s_courted) := ⟨rfl, rfl, rfl, by decide +kernel, rfl, by decide +kernel, by decide +kernel⟩
theorem f_courted (X : K.In h) (G : h.Ns mainGlobals mg) (c : He.SaysD facts fns K) (cc : consB K consts = true) : HasF P w K mg base 1 "courted" p_courted N_courted i_courted d_courted := by
  have b_len := He.free_ok X G (c.fact 28 (f := .free "len") rfl)
  have b_list := He.free_ok X G (c.fact 29 (f := .free "list") rfl)
  have b_range := He.free_ok X G (c.fact 32 (f := .free "range") rfl)
  have b_tuple := He.free_ok X G (c.fact 34 (f := .free "tuple") rfl)
  refine hasF (k := 0) X G c 5 5 rfl rfl sc_courted (fun _ _ _ _ _ _ us hl => match us, hl with | [_, _], _ => rfl) fun cdv A outer s H E hr => ?_
  have nd : N_courted.Nodup := sc_courted.nd
  exact sss_cons (set_ 2 nd (cB callv_len (sa_cons (pk 0) (sa_nil)) b_len))
    (sss_cons (ss_par3c (i := 3) (j := 4) (l := 5) rfl nd (sa_cons (e_mul (lst_ (sa_cons (se_int) (sa_nil))) (pk 2)) (sa_cons (e_mul (lst_ (sa_cons (se_non) (sa_nil))) (pk 2)) (sa_cons (se_lrng rfl b_list b_range (pk 2)) (sa_nil)))))
    (sss_cons (ss_while (passes_of rfl) (ct (opd_gt) (cB callv_len (sa_cons (pk 5) (sa_nil)) b_len) (se_int)) (sss_cons (set_ 6 nd (pop_ 5 (se_int)))
    (sss_cons (set_ 7 nd (se_fr (ix_ (ix_ (pk 0) (pk 6)) (ix_ (pk 3) (pk 6)))))
    (sss_cons (augP_ ip_addO 3 (pk 6) (se_int))
    (sss_one (ss_if (ctk opv_is (ix_ (pk 4) (pk 7)) (se_non)) (sss_one (ss_asg (tk 6) (put 4 (pk 7)))) (sss_one (ss_if (ct (opd_lt) (idx_ (room65 hr) (ix_ (pk 1) (pk 7)) (pk 6)) (idx_ (room65 hr) (ix_ (pk 1) (pk 7)) (ix_ (pk 4) (pk 7)))) (sss_cons (ss_expr (app_ 5 (ix_ (pk 4) (pk 7))))
    (sss_one (ss_asg (tk 6) (put 4 (pk 7))))) (sss_one (ss_expr (app_ 5 (tk 6))))))))))))
    (sss_one (ss_ret (cT callv_tup (sa_cons (se_lc (own := [("i", 6)]) rfl nd (si_rng1 rfl b_range (pk 2)) (blkOk_by (by rfl)) (fun _ _ _ _ _ => nm 6 nd) (fun _ _ _ _ _ => sts_nil) (fun _ _ _ _ _ => idx_ (room65 hr) (pk 4) (pk 6))) (sa_nil)) b_tuple)))))
theorem sc_first_best : FnScope N_first_best p_first_best (defScope s_first_best) := ⟨rfl, rfl, rfl, by decide +kernel, rfl, by decide +kernel, by decide +kernel⟩
theorem f_first_best (X : K.In h) (G : h.Ns mainGlobals mg) (c : He.SaysD facts fns K) (cc : consB K consts = true) : HasF P w K mg base 5 "first_best" p_first_best N_first_best i_first_best d_first_best := by
  have f_check_sides := (f_check_sides (P := P) (w := w) (base := base) X G c cc).mono (k := 4) (by decide)
  have f_courted := (f_courted (P := P) (w := w) (base := base) X G c cc).mono (k := 4) (by decide)
  refine hasF (k := 4) X G c 6 6 rfl rfl sc_first_best (fun _ _ _ _ _ _ us hl => match us, hl with | [_, _], _ => rfl) fun cdv A outer s H E hr => ?_
  have nd : N_first_best.Nodup := sc_first_best.nd
  exact sss_cons (ss_expr ((by exact call_ f_check_sides hr (sa_cons (pk 0) (sa_cons (pk 1) (sa_nil))))))
    (sss_one (ss_ret ((by exact call_ f_courted hr (sa_cons (pk 0) (sa_cons (pk 1) (sa_nil)))))))
theorem sc_second_best : FnScope N_second_best p_second_best (defScope s_second_best) := ⟨rfl, rfl, rfl, by decide +kernel, rfl, by decide +kernel, by decide +kernel⟩
theorem f_second_best (X : K.In h) (G : h.Ns mainGlobals mg) (c : He.SaysD facts fns K) (cc : consB K consts = true) : HasF P w K mg base 5 "second_best" p_second_best N_second_best i_second_best d_second_best := by
  have b_len := He.free_ok X G (c.fact 28 (f := .free "len") rfl)
  have b_range := He.free_ok X G (c.fact 32 (f := .free "range") rfl)
  have b_tuple := He.free_ok X G (c.fact 34 (f := .free "tuple") rfl)
  have f_check_sides := (f_check_sides (P := P) (w := w) (base := base) X G c cc).mono (k := 4) (by decide)
  have f_courted := (f_courted (P := P) (w := w) (base := base) X G c cc).mono (k := 4) (by decide)
  refine hasF (k := 4) X G c 7 7 rfl rfl sc_second_best (fun _ _ _ _ _ _ us hl => match us, hl with | [_, _], _ => rfl) fun cdv A outer s H E hr => ?_
  have nd : N_second_best.Nodup := sc_second_best.nd
  exact sss_cons (ss_expr ((by exact call_ f_check_sides hr (sa_cons (pk 0) (sa_cons (pk 1) (sa_nil))))))
    (sss_cons (set_ 2 nd ((by exact call_ f_courted hr (sa_cons (pk 1) (sa_cons (pk 0) (sa_nil))))))
    (sss_one (ss_ret (cT callv_tup (sa_cons (se_lc (own := [("i", 3)]) rfl nd (si_rng1 rfl b_range (cB callv_len (sa_cons (pk 0) (sa_nil)) b_len)) (blkOk_by (by rfl)) (fun _ _ _ _ _ => nm 3 nd) (fun _ _ _ _ _ => sts_nil) (fun _ _ _ _ _ => idx_ (room65 hr) (pk 2) (pk 3))) (sa_nil)) b_tuple))))
theorem sc_found_pair : FnScope N_found_pair p_found_pair (defScope s_found_pair) := ⟨rfl, rfl, rfl, by decide +kernel, rfl, by decide +kernel, by decide +kernel⟩
theorem f_found_pair (X : K.In h) (G : h.Ns mainGlobals mg) (c : He.SaysD facts fns K) (cc : consB K consts = true) : HasF P w K mg base 1 "found_pair" p_found_pair N_found_pair i_found_pair d_found_pair := by
  have b_len := He.free_ok X G (c.fact 28 (f := .free "len") rfl)
  have b_range := He.free_ok X G (c.fact 32 (f := .free "range") rfl)
  refine hasF (k := 0) X G c 8 8 rfl rfl sc_found_pair (fun _ _ _ _ _ _ us hl => match us, hl with | [_, _, _], _ => rfl) fun cdv A outer s H E hr => ?_
  have nd : N_found_pair.Nodup := sc_found_pair.nd
  exact sss_cons (ss_for (passes_of rfl) rfl (si_rng1 rfl b_range (cB callv_len (sa_cons (pk 0) (sa_nil)) b_len)) (nm 3 nd) (sss_one (ss_for (passes_of rfl) rfl (si_val (se_slH (ix_ (pk 0) (pk 3)) (idx_ (room65 hr) (ix_ (pk 0) (pk 3)) (ix_ (pk 2) (pk 3))))) (nm 4 nd) (sss_one (ss_if (ct (opd_lt) (idx_ (room65 hr) (ix_ (pk 1) (pk 4)) (pk 3)) (idx_ (room65 hr) (ix_ (pk 1) (pk 4)) (idx_ (room65 hr) (pk 2) (pk 4)))) (sss_one (ss_ret (tup_ (sa_cons (tk 3) (sa_cons (tk 4) (sa_nil)))))) (sss_nil))))))
    (sss_one (ss_ret (se_non)))
theorem sc_check_pairs : FnScope N_check_pairs p_check_pairs (defScope s_check_pairs) := ⟨rfl, rfl, rfl, by decide +kernel, rfl, by decide +kernel, by decide +kernel⟩
theorem f_check_pairs (X : K.In h) (G : h.Ns mainGlobals mg) (c : He.SaysD facts fns K) (cc : consB K consts = true) : HasF P w K mg base 5 "check_pairs" p_check_pairs N_check_pairs i_check_pairs d_check_pairs := by
  have b_len := He.free_ok X G (c.fact 28 (f := .free "len") rfl)
  have g_Malformed := He.glo_ok X G (c.fact 35 (f := .glo "Malformed") rfl)
  have x_Malformed := He.exc_ok (c.fact 36 (f := .exc "Malformed") rfl)
  have f_check_sides := (f_check_sides (P := P) (w := w) (base := base) X G c cc).mono (k := 4) (by decide)
  have f_is_order := (f_is_order (P := P) (w := w) (base := base) X G c cc).mono (k := 4) (by decide)
  refine hasF (k := 4) X G c 9 9 rfl rfl sc_check_pairs (fun _ _ _ _ _ _ us hl => match us, hl with | [_, _, _], _ => rfl) fun cdv A outer s H E hr => ?_
  have nd : N_check_pairs.Nodup := sc_check_pairs.nd
  exact sss_cons (ss_expr ((by exact call_ f_check_sides hr (sa_cons (pk 0) (sa_cons (pk 1) (sa_nil))))))
    (sss_one (ss_if (st_not (st_tru ((by exact call_ f_is_order hr (sa_cons (pk 2) (sa_cons (cB callv_len (sa_cons (pk 0) (sa_nil)) b_len) (sa_nil))))))) (sss_one (ss_raise rfl x_Malformed.1 g_Malformed x_Malformed.2.1 x_Malformed.2.2.1 x_Malformed.2.2.2 rfl)) (sss_nil)))
theorem sc_every_rest : FnScope N_every_rest p_every_rest (defScope s_every_rest) := ⟨rfl, rfl, rfl, by decide +kernel, rfl, by decide +kernel, by decide +kernel⟩
theorem f_every_rest (X : K.In h) (G : h.Ns mainGlobals mg) (c : He.SaysD facts fns K) (cc : consB K consts = true) : HasF P w K mg base 2 "every_rest" p_every_rest N_every_rest i_every_rest d_every_rest := by
  have b_len := He.free_ok X G (c.fact 28 (f := .free "len") rfl)
  have f_found_pair := (f_found_pair (P := P) (w := w) (base := base) X G c cc).mono (k := 1) (by decide)
  have f_turns_of := (f_turns_of (P := P) (w := w) (base := base) X G c cc).mono (k := 1) (by decide)
  refine hasF (k := 1) X G c 10 10 rfl rfl sc_every_rest (fun _ _ _ _ _ _ us hl => match us, hl with | [_, _], _ => rfl) fun cdv A outer s H E hr => ?_
  have nd : N_every_rest.Nodup := sc_every_rest.nd
  exact sss_one (ss_ret (se_fr (se_lc (own := [("pairs", 2)]) rfl nd (si_val ((by exact call_ f_turns_of hr (sa_cons (cB callv_len (sa_cons (pk 0) (sa_nil)) b_len) (sa_nil))))) (blkOk_by (by rfl)) (fun _ _ _ _ _ => nm 2 nd) (fun _ _ _ _ _ => sts_one (ctk opv_is ((by exact call_ f_found_pair hr (sa_cons (pk 0) (sa_cons (pk 1) (sa_cons (pk 2) (sa_nil)))))) (se_non))) (fun _ _ _ _ _ => tk 2))))
theorem sc_better_of : FnScope N_better_of p_better_of (defScope s_better_of) := ⟨rfl, rfl, rfl, by decide +kernel, rfl, by decide +kernel, by decide +kernel⟩
theorem f_better_of (X : K.In h) (G : h.Ns mainGlobals mg) (c : He.SaysD facts fns K) (cc : consB K consts = true) : HasF P w K mg base 6 "better_of" p_better_of N_better_of i_better_of d_better_of := by
  have b_len := He.free_ok X G (c.fact 28 (f := .free "len") rfl)
  have b_min := He.free_ok X G (c.fact 31 (f := .free "min") rfl)
  have b_range := He.free_ok X G (c.fact 32 (f := .free "range") rfl)
  have b_tuple := He.free_ok X G (c.fact 34 (f := .free "tuple") rfl)
  have g_Malformed := He.glo_ok X G (c.fact 35 (f := .glo "Malformed") rfl)
  have x_Malformed := He.exc_ok (c.fact 36 (f := .exc "Malformed") rfl)
  have f_check_pairs := (f_check_pairs (P := P) (w := w) (base := base) X G c cc).mono (k := 5) (by decide)
  have f_found_pair := (f_found_pair (P := P) (w := w) (base := base) X G c cc).mono (k := 5) (by decide)
  refine hasF (k := 5) X G c 11 11 rfl rfl sc_better_of (fun _ _ _ _ _ _ us hl => match us, hl with | [_, _, _, _], _ => rfl) fun cdv A outer s H E hr => ?_
  have nd : N_better_of.Nodup := sc_better_of.nd
  exact sss_cons (ss_expr ((by exact call_ f_check_pairs hr (sa_cons (pk 0) (sa_cons (pk 1) (sa_cons (pk 2) (sa_nil)))))))
    (sss_cons (ss_expr ((by exact call_ f_check_pairs hr (sa_cons (pk 0) (sa_cons (pk 1) (sa_cons (pk 3) (sa_nil)))))))
    (sss_cons (ss_if ((stw_or (ctk opv_isnot ((by exact call_ f_found_pair hr (sa_cons (pk 0) (sa_cons (pk 1) (sa_cons (pk 2) (sa_nil)))))) (se_non)) (stw_or1 (ctk opv_isnot ((by exact call_ f_found_pair hr (sa_cons (pk 0) (sa_cons (pk 1) (sa_cons (pk 3) (sa_nil)))))) (se_non)))).st) (sss_one (ss_raise rfl x_Malformed.1 g_Malformed x_Malformed.2.1 x_Malformed.2.2.1 x_Malformed.2.2.2 rfl)) (sss_nil))
    (sss_one (ss_ret (cT callv_tup (sa_cons (se_lc (own := [("i", 4)]) rfl nd (si_rng1 rfl b_range (cB callv_len (sa_cons (pk 0) (sa_nil)) b_len)) (blkOk_by (by rfl)) (fun _ _ _ _ _ => nm 4 nd) (fun _ _ _ _ _ => sts_nil) (fun _ _ _ _ _ => ix_ (cB (callv_minA rfl (room65 hr)) (sa_cons (se_lc (own := [("k", 5)]) rfl nd (si_val (tup_ (sa_cons (se_fr (ix_ (pk 2) (pk 4))) (sa_cons (se_fr (ix_ (pk 3) (pk 4))) (sa_nil))))) (blkOk_by (by rfl)) (fun _ _ _ _ _ => nm 5 nd) (fun _ _ _ _ _ => sts_nil) (fun _ _ _ _ _ => tup_ (sa_cons (idx_ (room65 hr) (ix_ (pk 0) (pk 4)) (pk 5)) (sa_cons (tk 5) (sa_nil))))) (sa_nil)) b_min) (se_int))) (sa_nil)) b_tuple)))))
theorem sc_worse_of : FnScope N_worse_of p_worse_of (defScope s_worse_of) := ⟨rfl, rfl, rfl, by decide +kernel, rfl, by decide +kernel, by decide +kernel⟩
theorem f_worse_of (X : K.In h) (G : h.Ns mainGlobals mg) (c : He.SaysD facts fns K) (cc : consB K consts = true) : HasF P w K mg base 6 "worse_of" p_worse_of N_worse_of i_worse_of d_worse_of := by
  have b_len := He.free_ok X G (c.fact 28 (f := .free "len") rfl)
  have b_max := He.free_ok X G (c.fact 30 (f := .free "max") rfl)
  have b_range := He.free_ok X G (c.fact 32 (f := .free "range") rfl)
  have b_tuple := He.free_ok X G (c.fact 34 (f := .free "tuple") rfl)
  have g_Malformed := He.glo_ok X G (c.fact 35 (f := .glo "Malformed") rfl)
  have x_Malformed := He.exc_ok (c.fact 36 (f := .exc "Malformed") rfl)
  have f_check_pairs := (f_check_pairs (P := P) (w := w) (base := base) X G c cc).mono (k := 5) (by decide)
  have f_found_pair := (f_found_pair (P := P) (w := w) (base := base) X G c cc).mono (k := 5) (by decide)
  refine hasF (k := 5) X G c 12 12 rfl rfl sc_worse_of (fun _ _ _ _ _ _ us hl => match us, hl with | [_, _, _, _], _ => rfl) fun cdv A outer s H E hr => ?_
  have nd : N_worse_of.Nodup := sc_worse_of.nd
  exact sss_cons (ss_expr ((by exact call_ f_check_pairs hr (sa_cons (pk 0) (sa_cons (pk 1) (sa_cons (pk 2) (sa_nil)))))))
    (sss_cons (ss_expr ((by exact call_ f_check_pairs hr (sa_cons (pk 0) (sa_cons (pk 1) (sa_cons (pk 3) (sa_nil)))))))
    (sss_cons (ss_if ((stw_or (ctk opv_isnot ((by exact call_ f_found_pair hr (sa_cons (pk 0) (sa_cons (pk 1) (sa_cons (pk 2) (sa_nil)))))) (se_non)) (stw_or1 (ctk opv_isnot ((by exact call_ f_found_pair hr (sa_cons (pk 0) (sa_cons (pk 1) (sa_cons (pk 3) (sa_nil)))))) (se_non)))).st) (sss_one (ss_raise rfl x_Malformed.1 g_Malformed x_Malformed.2.1 x_Malformed.2.2.1 x_Malformed.2.2.2 rfl)) (sss_nil))
    (sss_one (ss_ret (cT callv_tup (sa_cons (se_lc (own := [("i", 4)]) rfl nd (si_rng1 rfl b_range (cB callv_len (sa_cons (pk 0) (sa_nil)) b_len)) (blkOk_by (by rfl)) (fun _ _ _ _ _ => nm 4 nd) (fun _ _ _ _ _ => sts_nil) (fun _ _ _ _ _ => ix_ (cB (callv_maxA rfl (room65 hr)) (sa_cons (se_lc (own := [("k", 5)]) rfl nd (si_val (tup_ (sa_cons (se_fr (ix_ (pk 2) (pk 4))) (sa_cons (se_fr (ix_ (pk 3) (pk 4))) (sa_nil))))) (blkOk_by (by rfl)) (fun _ _ _ _ _ => nm 5 nd) (fun _ _ _ _ _ => sts_nil) (fun _ _ _ _ _ => tup_ (sa_cons (idx_ (room65 hr) (ix_ (pk 0) (pk 4)) (pk 5)) (sa_cons (tk 5) (sa_nil))))) (sa_nil)) b_max) (se_int))) (sa_nil)) b_tuple)))))
theorem sc_middle_rest : FnScope N_middle_rest p_middle_rest (defScope s_middle_rest) := ⟨rfl, rfl, rfl, by decide +kernel, rfl, by decide +kernel, by decide +kernel⟩
theorem f_middle_rest (X : K.In h) (G : h.Ns mainGlobals mg) (c : He.SaysD facts fns K) (cc : consB K consts = true) : HasF P w K mg base 5 "middle_rest" p_middle_rest N_middle_rest i_middle_rest d_middle_rest := by
  have b_bool := He.free_ok X G (c.fact 25 (f := .free "bool") rfl)
  have b_int := He.free_ok X G (c.fact 26 (f := .free "int") rfl)
  have b_isinstance := He.free_ok X G (c.fact 27 (f := .free "isinstance") rfl)
  have b_len := He.free_ok X G (c.fact 28 (f := .free "len") rfl)
  have b_range := He.free_ok X G (c.fact 32 (f := .free "range") rfl)
  have b_sorted := He.free_ok X G (c.fact 33 (f := .free "sorted") rfl)
  have b_tuple := He.free_ok X G (c.fact 34 (f := .free "tuple") rfl)
  have g_Malformed := He.glo_ok X G (c.fact 35 (f := .glo "Malformed") rfl)
  have x_Malformed := He.exc_ok (c.fact 36 (f := .exc "Malformed") rfl)
  have f_check_sides := (f_check_sides (P := P) (w := w) (base := base) X G c cc).mono (k := 4) (by decide)
  have f_every_rest := (f_every_rest (P := P) (w := w) (base := base) X G c cc).mono (k := 4) (by decide)
  refine hasF (k := 4) X G c 13 13 rfl rfl sc_middle_rest (fun _ _ _ _ _ _ us hl => match us, hl with | [_, _, _], _ => rfl) fun cdv A outer s H E hr => ?_
  have nd : N_middle_rest.Nodup := sc_middle_rest.nd
  exact sss_cons (ss_expr ((by exact call_ f_check_sides hr (sa_cons (pk 0) (sa_cons (pk 1) (sa_nil))))))
    (sss_cons (set_ 3 nd ((by exact call_ f_every_rest hr (sa_cons (pk 0) (sa_cons (pk 1) (sa_nil))))))
    (sss_cons (ss_if ((stw_or (st_not (st_tru (isi_ .int (pk 2) b_isinstance b_int))) (stw_or (st_tru (isi_ .bool (pk 2) b_isinstance b_bool)) (stw_or1 (st_not (st_chain op_le op_lt (se_int) (pk 2) (cB callv_len (sa_cons (pk 3) (sa_nil)) b_len)))))).st) (sss_one (ss_raise rfl x_Malformed.1 g_Malformed x_Malformed.2.1 x_Malformed.2.2.1 x_Malformed.2.2.2 rfl)) (sss_nil))
    (sss_cons (set_ 4 nd (lst_ (sa_nil)))
    (sss_cons (ss_for (passes_of rfl) rfl (si_rng1 rfl b_range (cB callv_len (sa_cons (pk 0) (sa_nil)) b_len)) (nm 5 nd) (sss_one (ss_expr (app_ 4 (ix_ (ix_ (cB callv_sort (sa_cons (se_lc (own := [("pairs", 6)]) rfl nd (si_val (tk 3)) (blkOk_by (by rfl)) (fun _ _ _ _ _ => nm 6 nd) (fun _ _ _ _ _ => sts_nil) (fun _ _ _ _ _ => tup_ (sa_cons (idx_ (room65 hr) (ix_ (pk 0) (pk 5)) (ix_ (pk 6) (pk 5))) (sa_cons (se_fr (ix_ (pk 6) (pk 5))) (sa_nil))))) (sa_nil)) b_sorted) (pk 2)) (se_int))))))
    (sss_one (ss_ret (cT callv_tup (sa_cons (pk 4) (sa_nil)) b_tuple)))))))
theorem sc__law_draw : FnScope N__law_draw p__law_draw (defScope s__law_draw) := ⟨rfl, rfl, rfl, by decide +kernel, rfl, by decide +kernel, by decide +kernel⟩
theorem f__law_draw (X : K.In h) (G : h.Ns mainGlobals mg) (c : He.SaysD facts fns K) (cc : consB K consts = true) : HasF P w K mg base 1 "_law_draw" p__law_draw N__law_draw i__law_draw d__law_draw := by
  have b_abs := He.free_ok X G (c.fact 23 (f := .free "abs") rfl)
  have b_int := He.free_ok X G (c.fact 26 (f := .free "int") rfl)
  refine hasF (k := 0) X G c 14 14 rfl rfl sc__law_draw (fun _ _ _ _ _ _ us hl => match us, hl with | [_], _ => rfl) fun cdv A outer s H E hr => ?_
  have nd : N__law_draw.Nodup := sc__law_draw.nd
  exact sss_cons (set_ 1 nd (se_int))
    (sss_cons (ss_for (passes_of rfl) rfl (si_val (tk 0)) (nm 2 nd) (sss_one (set_ 1 nd (e_mod (cT callv_int (sa_cons (e_add (e_add (e_mul (pk 1) (se_int)) (e_mod (cB callv_abs (sa_cons (cT callv_int (sa_cons (pk 2) (sa_nil)) b_int) (sa_nil)) b_abs) (se_int))) (se_int)) (sa_nil)) b_int) (se_int)))))
    (sss_one (ss_ret (lst_ (sa_cons (se_fr (se_lc (own := [("cell", 2)]) rfl nd (si_val (tk 0)) (blkOk_by (by rfl)) (fun _ _ _ _ _ => nm 2 nd) (fun _ _ _ _ _ => sts_nil) (fun _ _ _ _ _ => cB callv_abs (sa_cons (cT callv_int (sa_cons (pk 2) (sa_nil)) b_int) (sa_nil)) b_abs))) (sa_cons (e_neg (se_int)) (sa_cons (se_int) (sa_cons (tk 1) (sa_nil)))))))))
theorem sc__law_take : FnScope N__law_take p__law_take (defScope s__law_take) := ⟨rfl, rfl, rfl, by decide +kernel, rfl, by decide +kernel, by decide +kernel⟩
theorem f__law_take (X : K.In h) (G : h.Ns mainGlobals mg) (c : He.SaysD facts fns K) (cc : consB K consts = true) : HasF P w K mg base 1 "_law_take" p__law_take N__law_take i__law_take d__law_take := by
  have b_int := He.free_ok X G (c.fact 26 (f := .free "int") rfl)
  have b_len := He.free_ok X G (c.fact 28 (f := .free "len") rfl)
  refine hasF (k := 0) X G c 15 15 rfl rfl sc__law_take (fun _ _ _ _ _ _ us hl => match us, hl with | [_, _], _ => rfl) fun cdv A outer s H E hr => ?_
  have nd : N__law_take.Nodup := sc__law_take.nd
  exact sss_cons (ss_if (ct (opd_eq hr.units) (ix_ (pk 0) (se_int)) (se_int)) (sss_cons (ss_asg (e_add (ix_ (pk 0) (se_int)) (se_int)) (put 0 (se_int)))
    (sss_cons (ss_if (ct (opd_lt) (ix_ (pk 0) (se_int)) (cB callv_len (sa_cons (ix_ (pk 0) (se_int)) (sa_nil)) b_len)) (sss_one (ss_asg (ix_ (ix_ (pk 0) (se_int)) (ix_ (pk 0) (se_int))) (put 0 (se_int)))) (sss_nil))
    (sss_one (ss_if (ct (opd_eq hr.units) (ix_ (pk 0) (se_int)) (se_int)) (sss_cons (ss_asg (e_mod (cT callv_int (sa_cons (e_add (e_mul (ix_ (pk 0) (se_int)) (se_int)) (se_int)) (sa_nil)) b_int) (se_int)) (put 0 (se_int)))
    (sss_one (ss_asg (ix_ (pk 0) (se_int)) (put 0 (se_int))))) (sss_nil))))) (sss_nil))
    (sss_cons (set_ 2 nd (e_mod (cT callv_int (sa_cons (ix_ (pk 0) (se_int)) (sa_nil)) b_int) (pk 1)))
    (sss_cons (ss_asg (e_div (ix_ (pk 0) (se_int)) (pk 1)) (put 0 (se_int)))
    (sss_one (ss_ret (tk 2)))))
theorem sc__law_perms : FnScope N__law_perms p__law_perms (defScope s__law_perms) := ⟨rfl, rfl, rfl, by decide +kernel, rfl, by decide +kernel, by decide +kernel⟩
theorem f__law_perms (X : K.In h) (G : h.Ns mainGlobals mg) (c : He.SaysD facts fns K) (cc : consB K consts = true) : HasF P w K mg base 1 "_law_perms" p__law_perms N__law_perms i__law_perms d__law_perms := by
  have b_range := He.free_ok X G (c.fact 32 (f := .free "range") rfl)
  refine hasF (k := 0) X G c 16 16 rfl rfl sc__law_perms (fun _ _ _ _ _ _ us hl => match us, hl with | [_], _ => rfl) fun cdv A outer s H E hr => ?_
  have nd : N__law_perms.Nodup := sc__law_perms.nd
  exact sss_cons (set_ 1 nd (se_fr (lst_ (sa_cons (tup_ (sa_nil)) (sa_nil)))))
    (sss_cons (ss_for (passes_of rfl) rfl (si_rng1 rfl b_range (pk 0)) (nm 2 nd) (sss_cons (set_ 3 nd (se_fr (lst_ (sa_nil))))
    (sss_cons (ss_for (passes_of rfl) rfl (si_val (tk 1)) (nm 4 nd) (sss_one (set_ 3 nd (se_fr (e_add (pk 3) (se_lc (own := [("x", 5)]) rfl nd (si_rng1 rfl b_range (pk 0)) (blkOk_by (by rfl)) (fun _ _ _ _ _ => nm 5 nd) (fun _ _ _ _ _ => sts_one (ct (opd_nin (room65 hr)) (pk 5) (pk 4))) (fun _ _ _ _ _ => e_add (pk 4) (tup_ (sa_cons (tk 5) (sa_nil))))))))))
    (sss_one (set_ 1 nd (tk 3))))))
    (sss_one (ss_ret (tk 1))))
theorem sc__law_order : FnScope N__law_order p__law_order (defScope s__law_order) := ⟨rfl, rfl, rfl, by decide +kernel, rfl, by decide +kernel, by decide +kernel⟩
theorem f__law_order (X : K.In h) (G : h.Ns mainGlobals mg) (c : He.SaysD facts fns K) (cc : consB K consts = true) : HasF P w K mg base 2 "_law_order" p__law_order N__law_order i__law_order d__law_order := by
  have b_len := He.free_ok X G (c.fact 28 (f := .free "len") rfl)
  have b_list := He.free_ok X G (c.fact 29 (f := .free "list") rfl)
  have b_range := He.free_ok X G (c.fact 32 (f := .free "range") rfl)
  have b_tuple := He.free_ok X G (c.fact 34 (f := .free "tuple") rfl)
  have f__law_take := (f__law_take (P := P) (w := w) (base := base) X G c cc).mono (k := 1) (by decide)
  refine hasF (k := 1) X G c 17 17 rfl rfl sc__law_order (fun _ _ _ _ _ _ us hl => match us, hl with | [_, _], _ => rfl) fun cdv A outer s H E hr => ?_
  have nd : N__law_order.Nodup := sc__law_order.nd
  exact sss_cons (set_ 2 nd (se_lrng rfl b_list b_range (pk 1)))
    (sss_cons (set_ 3 nd (lst_ (sa_nil)))
    (sss_cons (ss_for (passes_of rfl) rfl (si_rng1 rfl b_range (pk 1)) (nm 4 nd) (sss_one (ss_expr (app_ 3 (pop_ 2 ((by exact callI_ f__law_take hr (aio 0 (saa_v (cB callv_len (sa_cons (pk 2) (sa_nil)) b_len) (saa_nil))))))))))
    (sss_one (ss_ret (cT callv_tup (sa_cons (pk 3) (sa_nil)) b_tuple)))))
theorem sc__law_unrest : FnScope N__law_unrest p__law_unrest (defScope s__law_unrest) := ⟨rfl, rfl, rfl, by decide +kernel, rfl, by decide +kernel, by decide +kernel⟩
theorem f__law_unrest (X : K.In h) (G : h.Ns mainGlobals mg) (c : He.SaysD facts fns K) (cc : consB K consts = true) : HasF P w K mg base 1 "_law_unrest" p__law_unrest N__law_unrest i__law_unrest d__law_unrest := by
  have b_len := He.free_ok X G (c.fact 28 (f := .free "len") rfl)
  have b_range := He.free_ok X G (c.fact 32 (f := .free "range") rfl)
  refine hasF (k := 0) X G c 18 18 rfl rfl sc__law_unrest (fun _ _ _ _ _ _ us hl => match us, hl with | [_, _, _], _ => rfl) fun cdv A outer s H E hr => ?_
  have nd : N__law_unrest.Nodup := sc__law_unrest.nd
  exact sss_cons (ss_for (passes_of rfl) rfl (si_rng1 rfl b_range (cB callv_len (sa_cons (pk 0) (sa_nil)) b_len)) (nm 3 nd) (sss_one (ss_for (passes_of rfl) rfl (si_val (se_slH (ix_ (pk 0) (pk 3)) (idx_ (room65 hr) (ix_ (pk 0) (pk 3)) (ix_ (pk 2) (pk 3))))) (nm 4 nd) (sss_one (ss_if (ct (opd_lt) (idx_ (room65 hr) (ix_ (pk 1) (pk 4)) (pk 3)) (idx_ (room65 hr) (ix_ (pk 1) (pk 4)) (idx_ (room65 hr) (pk 2) (pk 4)))) (sss_one (ss_ret (tup_ (sa_cons (tk 3) (sa_cons (tk 4) (sa_nil)))))) (sss_nil))))))
    (sss_one (ss_ret (se_non)))
theorem sc__law_rests : FnScope N__law_rests p__law_rests (defScope s__law_rests) := ⟨rfl, rfl, rfl, by decide +kernel, rfl, by decide +kernel, by decide +kernel⟩
theorem f__law_rests (X : K.In h) (G : h.Ns mainGlobals mg) (c : He.SaysD facts fns K) (cc : consB K consts = true) : HasF P w K mg base 2 "_law_rests" p__law_rests N__law_rests i__law_rests d__law_rests := by
  have b_len := He.free_ok X G (c.fact 28 (f := .free "len") rfl)
  have f__law_perms := (f__law_perms (P := P) (w := w) (base := base) X G c cc).mono (k := 1) (by decide)
  have f__law_unrest := (f__law_unrest (P := P) (w := w) (base := base) X G c cc).mono (k := 1) (by decide)
  refine hasF (k := 1) X G c 19 19 rfl rfl sc__law_rests (fun _ _ _ _ _ _ us hl => match us, hl with | [_, _], _ => rfl) fun cdv A outer s H E hr => ?_
  have nd : N__law_rests.Nodup := sc__law_rests.nd
  exact sss_one (ss_ret (se_fr (se_lc (own := [("pairs", 2)]) rfl nd (si_val ((by exact call_ f__law_perms hr (sa_cons (cB callv_len (sa_cons (pk 0) (sa_nil)) b_len) (sa_nil))))) (blkOk_by (by rfl)) (fun _ _ _ _ _ => nm 2 nd) (fun _ _ _ _ _ => sts_one (ctk opv_is ((by exact call_ f__law_unrest hr (sa_cons (pk 0) (sa_cons (pk 1) (sa_cons (pk 2) (sa_nil)))))) (se_non))) (fun _ _ _ _ _ => tk 2))))
theorem sc__law_sides : FnScope N__law_sides p__law_sides (defScope s__law_sides) := ⟨rfl, rfl, rfl, by decide +kernel, rfl, by decide +kernel, by decide +kernel⟩
theorem f__law_sides (X : K.In h) (G : h.Ns mainGlobals mg) (c : He.SaysD facts fns K) (cc : consB K consts = true) : HasF P w K mg base 3 "_law_sides" p__law_sides N__law_sides i__law_sides d__law_sides := by
  have b_range := He.free_ok X G (c.fact 32 (f := .free "range") rfl)
  have b_tuple := He.free_ok X G (c.fact 34 (f := .free "tuple") rfl)
  have f__law_order := (f__law_order (P := P) (w := w) (base := base) X G c cc).mono (k := 2) (by decide)
  have f__law_take := (f__law_take (P := P) (w := w) (base := base) X G c cc).mono (k := 2) (by decide)
  refine hasF (k := 2) X G c 20 20 rfl rfl sc__law_sides (fun _ _ _ _ _ _ us hl => match us, hl with | [_, _], _ => rfl) fun cdv A outer s H E hr => ?_
  have nd : N__law_sides.Nodup := sc__law_sides.nd
  exact sss_cons (set_ 2 nd (cT callv_tup (sa_cons (se_lc (own := [("i", 7)]) rfl nd (si_rng1 rfl b_range (pk 1)) (blkOk_by (by rfl)) (fun _ _ _ _ _ => nm 7 nd) (fun _ _ _ _ _ => sts_nil) (fun _ _ _ _ _ => (by exact callI_ f__law_order hr (aio 0 (saa_v (tk 1) (saa_nil)))))) (sa_nil)) b_tuple))
    (sss_cons (set_ 3 nd (cT callv_tup (sa_cons (se_lc (own := [("i", 7)]) rfl nd (si_rng1 rfl b_range (pk 1)) (blkOk_by (by rfl)) (fun _ _ _ _ _ => nm 7 nd) (fun _ _ _ _ _ => sts_nil) (fun _ _ _ _ _ => (by exact callI_ f__law_order hr (aio 0 (saa_v (tk 1) (saa_nil)))))) (sa_nil)) b_tuple))
    (sss_cons (ss_if (ct (opd_eq hr.units) ((by exact callI_ f__law_take hr (aio 0 (saa_v (se_int) (saa_nil))))) (se_int)) (sss_cons (set_ 4 nd ((by exact callI_ f__law_order hr (aio 0 (saa_v (tk 1) (saa_nil))))))
    (sss_cons (set_ 2 nd (cT callv_tup (sa_cons (se_lc (own := [("i", 7)]) rfl nd (si_rng1 rfl b_range (pk 1)) (blkOk_by (by rfl)) (fun _ _ _ _ _ => nm 7 nd) (fun _ _ _ _ _ => sts_nil) (fun _ _ _ _ _ => e_add (se_slL (pk 4) (pk 7)) (se_slH (pk 4) (pk 7)))) (sa_nil)) b_tuple))
    (sss_cons (set_ 3 nd (lst_ (sa_nil)))
    (sss_cons (ss_for (passes_of rfl) rfl (si_rng1 rfl b_range (pk 1)) (nm 5 nd) (sss_cons (ss_setLcF (i := 6) (own := [("i", 7)]) rfl nd rfl rfl (sw_true rfl rfl rfl rfl) (si_rng1 rfl b_range (pk 1)) (blkOk_by (by rfl)) (fun _ _ _ _ _ => nm 7 nd) (fun _ _ _ _ _ => sts_one (ct (opd_eq hr.units) (ix_ (ix_ (pk 2) (pk 7)) (e_sub (pk 1) (se_int))) (pk 5))) (fun _ _ _ _ _ => tk 7))
    (sss_cons (set_ 6 nd (se_fr (e_add (pk 6) (se_lc (own := [("i", 7)]) rfl nd (si_rng1 rfl b_range (pk 1)) (blkOk_by (by rfl)) (fun _ _ _ _ _ => nm 7 nd) (fun _ _ _ _ _ => sts_one ((stw_and (ct (opd_ne hr.units) (ix_ (ix_ (pk 2) (pk 7)) (e_sub (pk 1) (se_int))) (pk 5)) (stw_and1 (ct (opd_ne hr.units) (ix_ (ix_ (pk 2) (pk 7)) (se_int)) (pk 5)))).st)) (fun _ _ _ _ _ => tk 7)))))
    (sss_one (ss_expr (app_ 3 (cT callv_tup (sa_cons (e_add (pk 6) (se_lc (own := [("i", 7)]) rfl nd (si_rng1 rfl b_range (pk 1)) (blkOk_by (by rfl)) (fun _ _ _ _ _ => nm 7 nd) (fun _ _ _ _ _ => sts_one ((stw_and (ct (opd_eq hr.units) (ix_ (ix_ (pk 2) (pk 7)) (se_int)) (pk 5)) (stw_and1 (ct (opd_ne hr.units) (ix_ (ix_ (pk 2) (pk 7)) (e_sub (pk 1) (se_int))) (pk 5)))).st)) (fun _ _ _ _ _ => tk 7))) (sa_nil)) b_tuple)))))))
    (sss_one (set_ 3 nd (cT callv_tup (sa_cons (pk 3) (sa_nil)) b_tuple))))))) (sss_nil))
    (sss_one (ss_ret (tup_ (sa_cons (tk 2) (sa_cons (tk 3) (sa_nil))))))))
theorem sc__law_malformed : FnScope N__law_malformed p__law_malformed (defScope s__law_malformed) := ⟨rfl, rfl, rfl, by decide +kernel, rfl, by decide +kernel, by decide +kernel⟩
theorem f__law_malformed (X : K.In h) (G : h.Ns mainGlobals mg) (c : He.SaysD facts fns K) (cc : consB K consts = true) : HasF P w K mg base 7 "_law_malformed" p__law_malformed N__law_malformed i__law_malformed d__law_malformed := by
  have g_Malformed := He.glo_ok X G (c.fact 35 (f := .glo "Malformed") rfl)
  have m_Malformed_Malformed := He.exm_ok (c.fact 37 (f := .exm "Malformed" "Malformed" true) rfl)
  have f_better_of := (f_better_of (P := P) (w := w) (base := base) X G c cc).mono (k := 6) (by decide)
  have f_middle_rest := (f_middle_rest (P := P) (w := w) (base := base) X G c cc).mono (k := 6) (by decide)
  have f_worse_of := (f_worse_of (P := P) (w := w) (base := base) X G c cc).mono (k := 6) (by decide)
  refine hasF (k := 6) X G c 21 21 rfl rfl sc__law_malformed (fun _ _ _ _ _ _ us hl => match us, hl with | [_, _, _, _, _], _ => rfl) fun cdv A outer s H E hr => ?_
  have nd : N__law_malformed.Nodup := sc__law_malformed.nd
  exact sss_cons (ss_try1 rfl rfl ⟨rfl, by decide, .inl g_Malformed⟩ (taker_cons g_Malformed m_Malformed_Malformed (taker_nil)) (fun pn xe hp => sss_one (ss_if (ct (opd_eq hr.units) (pk 0) (se_int)) (sss_one (ss_expr ((by exact call_ f_better_of hr (sa_cons (pk 1) (sa_cons (pk 2) (sa_cons (pk 3) (sa_cons (pk 4) (sa_nil))))))))) (sss_one (ss_if (ct (opd_eq hr.units) (pk 0) (se_int)) (sss_one (ss_expr ((by exact call_ f_worse_of hr (sa_cons (pk 1) (sa_cons (pk 2) (sa_cons (pk 3) (sa_cons (pk 4) (sa_nil))))))))) (sss_one (ss_expr ((by exact call_ f_middle_rest hr (sa_cons (pk 1) (sa_cons (pk 2) (sa_cons (pk 4) (sa_nil)))))))))))) (fun p pn => sss_one (ss_ret (se_bl))))
    (sss_one (ss_ret (se_bl)))
theorem sc_law : FnScope N_law p_law (defScope s_law) := ⟨rfl, rfl, rfl, by decide +kernel, rfl, by decide +kernel, by decide +kernel⟩
theorem f_law (X : K.In h) (G : h.Ns mainGlobals mg) (c : He.SaysD facts fns K) (cc : consB K consts = true) : HasF P w K mg base 8 "law" p_law N_law i_law d_law := by
  have b_len := He.free_ok X G (c.fact 28 (f := .free "len") rfl)
  have b_list := He.free_ok X G (c.fact 29 (f := .free "list") rfl)
  have b_range := He.free_ok X G (c.fact 32 (f := .free "range") rfl)
  have b_sorted := He.free_ok X G (c.fact 33 (f := .free "sorted") rfl)
  have b_tuple := He.free_ok X G (c.fact 34 (f := .free "tuple") rfl)
  have f__law_draw := (f__law_draw (P := P) (w := w) (base := base) X G c cc).mono (k := 7) (by decide)
  have f__law_malformed := (f__law_malformed (P := P) (w := w) (base := base) X G c cc).mono (k := 7) (by decide)
  have f__law_order := (f__law_order (P := P) (w := w) (base := base) X G c cc).mono (k := 7) (by decide)
  have f__law_rests := (f__law_rests (P := P) (w := w) (base := base) X G c cc).mono (k := 7) (by decide)
  have f__law_sides := (f__law_sides (P := P) (w := w) (base := base) X G c cc).mono (k := 7) (by decide)
  have f__law_take := (f__law_take (P := P) (w := w) (base := base) X G c cc).mono (k := 7) (by decide)
  have f_better_of := (f_better_of (P := P) (w := w) (base := base) X G c cc).mono (k := 7) (by decide)
  have f_first_best := (f_first_best (P := P) (w := w) (base := base) X G c cc).mono (k := 7) (by decide)
  have f_middle_rest := (f_middle_rest (P := P) (w := w) (base := base) X G c cc).mono (k := 7) (by decide)
  have f_second_best := (f_second_best (P := P) (w := w) (base := base) X G c cc).mono (k := 7) (by decide)
  have f_worse_of := (f_worse_of (P := P) (w := w) (base := base) X G c cc).mono (k := 7) (by decide)
  refine hasF (k := 7) X G c 22 22 rfl rfl sc_law (fun _ _ _ _ _ _ us hl => match us, hl with | [_], _ => rfl) fun cdv A outer s H E hr => ?_
  have nd : N_law.Nodup := sc_law.nd
  exact sss_cons (set_ 1 nd ((by exact call_ f__law_draw hr (sa_cons (pk 0) (sa_nil)))))
    (sss_cons (set_ 2 nd (se_fr (ix_ (lst_ (sa_cons (se_int) (sa_cons (se_int) (sa_cons (se_int) (sa_cons (se_int) (sa_cons (se_int) (sa_cons (se_int) (sa_cons (se_int) (sa_nil))))))))) ((by exact callI_ f__law_take hr (aio 1 (saa_v (se_int) (saa_nil))))))))
    (sss_cons (ss_asg ((by exact callI_ f__law_sides hr (aio 1 (saa_v (tk 2) (saa_nil))))) (sg_tup rfl (sgs_cons (nm 3 nd) (sgs_cons (nm 4 nd) (sgs_nil)))))
    (sss_cons (set_ 5 nd ((by exact call_ f__law_rests hr (sa_cons (pk 3) (sa_cons (pk 4) (sa_nil))))))
    (sss_cons (set_ 6 nd (se_fr (ix_ (pk 5) ((by exact callI_ f__law_take hr (aio 1 (saa_v (cB callv_len (sa_cons (pk 5) (sa_nil)) b_len) (saa_nil))))))))
    (sss_cons (set_ 7 nd (se_fr (ix_ (pk 5) ((by exact callI_ f__law_take hr (aio 1 (saa_v (cB callv_len (sa_cons (pk 5) (sa_nil)) b_len) (saa_nil))))))))
    (sss_cons (set_ 8 nd (lst_ (sa_nil)))
    (sss_cons (set_ 9 nd (lst_ (sa_nil)))
    (sss_cons (ss_for (passes_of rfl) rfl (si_rng1 rfl b_range (pk 2)) (nm 10 nd) (sss_cons (set_ 11 nd (se_fr (cB callv_sort (sa_cons (lst_ (sa_cons (idx_ (room65 hr) (ix_ (pk 3) (pk 10)) (ix_ (pk 6) (pk 10))) (sa_cons (idx_ (room65 hr) (ix_ (pk 3) (pk 10)) (ix_ (pk 7) (pk 10))) (sa_nil)))) (sa_nil)) b_sorted)))
    (sss_cons (ss_expr (app_ 8 (ix_ (ix_ (pk 3) (pk 10)) (ix_ (pk 11) (se_int)))))
    (sss_one (ss_expr (app_ 9 (ix_ (ix_ (pk 3) (pk 10)) (ix_ (pk 11) (se_int)))))))))
    (sss_cons (ss_if ((stw_or (ct (opd_ne hr.units) ((by exact call_ f_better_of hr (sa_cons (pk 3) (sa_cons (pk 4) (sa_cons (pk 6) (sa_cons (pk 7) (sa_nil))))))) (cT callv_tup (sa_cons (pk 8) (sa_nil)) b_tuple)) (stw_or1 (ct (opd_ne hr.units) ((by exact call_ f_worse_of hr (sa_cons (pk 3) (sa_cons (pk 4) (sa_cons (pk 6) (sa_cons (pk 7) (sa_nil))))))) (cT callv_tup (sa_cons (pk 9) (sa_nil)) b_tuple)))).st) (sss_one (ss_ret (se_bl))) (sss_nil))
    (sss_cons (ss_if ((stw_or (ct (opd_nin (room65 hr)) (cT callv_tup (sa_cons (pk 8) (sa_nil)) b_tuple) (pk 5)) (stw_or1 (ct (opd_nin (room65 hr)) (cT callv_tup (sa_cons (pk 9) (sa_nil)) b_tuple) (pk 5)))).st) (sss_one (ss_ret (se_bl))) (sss_nil))
    (sss_cons (ss_for (passes_of rfl) rfl (si_rng1 rfl b_range (cB callv_len (sa_cons (pk 5) (sa_nil)) b_len)) (nm 12 nd) (sss_cons (set_ 13 nd (cT callv_tup (sa_cons (se_lc (own := [("i", 10)]) rfl nd (si_rng1 rfl b_range (pk 2)) (blkOk_by (by rfl)) (fun _ _ _ _ _ => nm 10 nd) (fun _ _ _ _ _ => sts_nil) (fun _ _ _ _ _ => ix_ (ix_ (pk 3) (pk 10)) (ix_ (cB callv_sort (sa_cons (se_lc (own := [("row", 16)]) rfl nd (si_val (tk 5)) (blkOk_by (by rfl)) (fun _ _ _ _ _ => nm 16 nd) (fun _ _ _ _ _ => sts_nil) (fun _ _ _ _ _ => idx_ (room65 hr) (ix_ (pk 3) (pk 10)) (ix_ (pk 16) (pk 10)))) (sa_nil)) b_sorted) (pk 12)))) (sa_nil)) b_tuple))
    (sss_one (ss_if ((stw_or (ct (opd_ne hr.units) ((by exact call_ f_middle_rest hr (sa_cons (pk 3) (sa_cons (pk 4) (sa_cons (pk 12) (sa_nil)))))) (pk 13)) (stw_or1 (ct (opd_nin (room65 hr)) (pk 13) (pk 5)))).st) (sss_one (ss_ret (se_bl))) (sss_nil)))))
    (sss_cons (ss_if ((stw_or (ct (opd_ne hr.units) ((by exact call_ f_middle_rest hr (sa_cons (pk 3) (sa_cons (pk 4) (sa_cons (se_int) (sa_nil)))))) ((by exact call_ f_first_best hr (sa_cons (pk 3) (sa_cons (pk 4) (sa_nil)))))) (stw_or1 (ct (opd_ne hr.units) ((by exact call_ f_middle_rest hr (sa_cons (pk 3) (sa_cons (pk 4) (sa_cons (e_sub (cB callv_len (sa_cons (pk 5) (sa_nil)) b_len) (se_int)) (sa_nil)))))) ((by exact call_ f_second_best hr (sa_cons (pk 3) (sa_cons (pk 4) (sa_nil)))))))).st) (sss_one (ss_ret (se_bl))) (sss_nil))
    (sss_cons (set_ 14 nd (se_fr (ix_ (lst_ (sa_cons (e_neg (se_int)) (sa_cons (cB callv_len (sa_cons (pk 5) (sa_nil)) b_len) (sa_cons (se_bl) (sa_cons (se_non) (sa_cons (se_str) (sa_nil))))))) ((by exact callI_ f__law_take hr (aio 1 (saa_v (se_int) (saa_nil))))))))
    (sss_cons (ss_if ((stw_or (st_not (st_tru ((by exact call_ f__law_malformed hr (sa_cons (se_int) (sa_cons (pk 3) (sa_cons (pk 4) (sa_cons (tup_ (sa_nil)) (sa_cons (pk 14) (sa_nil)))))))))) (stw_or1 (st_not (st_tru ((by exact call_ f__law_malformed hr (sa_cons (se_int) (sa_cons (pk 3) (sa_cons (se_slL (pk 4) (se_int)) (sa_cons (tup_ (sa_nil)) (sa_cons (se_int) (sa_nil)))))))))))).st) (sss_one (ss_ret (se_bl))) (sss_nil))
    (sss_cons (set_ 15 nd (se_fr (ix_ (lst_ (sa_cons ((by exact callI_ f__law_order hr (aio 1 (saa_v (tk 2) (saa_nil))))) (sa_cons (se_non) (sa_cons (se_fr (e_mulA (tup_ (sa_cons (se_int) (sa_nil))) (e_add (pk 2) (se_int)))) (sa_cons (se_fr (cT callv_lst (sa_cons (pk 6) (sa_nil)) b_list)) (sa_nil)))))) ((by exact callI_ f__law_take hr (aio 1 (saa_v (se_int) (saa_nil))))))))
    (sss_cons (ss_if (ct (opd_in (room65 hr)) (pk 15) (pk 5)) (sss_one (ss_ret (se_bl))) (sss_nil))
    (sss_cons (ss_if ((stw_or (st_not (st_tru ((by exact call_ f__law_malformed hr (sa_cons (se_int) (sa_cons (pk 3) (sa_cons (pk 4) (sa_cons (pk 15) (sa_cons (pk 6) (sa_nil)))))))))) (stw_or1 (st_not (st_tru ((by exact call_ f__law_malformed hr (sa_cons (se_int) (sa_cons (pk 3) (sa_cons (pk 4) (sa_cons (pk 6) (sa_cons (pk 15) (sa_nil)))))))))))).st) (sss_one (ss_ret (se_bl))) (sss_nil))
    (sss_one (ss_ret (se_andV ((by exact call_ f__law_malformed hr (sa_cons (se_int) (sa_cons (pk 3) (sa_cons (pk 4) (sa_cons (pk 15) (sa_cons (pk 6) (sa_nil)))))))) (se_one ((by exact call_ f__law_malformed hr (sa_cons (se_int) (sa_cons (pk 3) (sa_cons (pk 4) (sa_cons (pk 6) (sa_cons (pk 15) (sa_nil)))))))))))))))))))))))))))))
end
abbrev LV : Nat := 8
end Q

set_option Elab.async false
set_option linter.all false
set_option maxRecDepth 100000
set_option maxHeartbeats 4000000
/-! Couples: the plain law. -/
namespace Q
open PySem PySem.Spec PyProof.Rows L2
/-! ### lists that are orders -/
def IsP (l : List Nat) (n : Nat) : Prop := l.Perm (List.range n)
theorem IsP.len {l : List Nat} {n : Nat} (h : IsP l n) : l.length = n := by rw [h.length_eq, List.length_range]
theorem IsP.nd {l : List Nat} {n : Nat} (h : IsP l n) : l.Nodup := h.nodup_iff.mpr List.nodup_range
theorem IsP.mem {l : List Nat} {n x : Nat} (h : IsP l n) : x ∈ l ↔ x < n := by rw [h.mem_iff, List.mem_range]
theorem IsP.get_lt {l : List Nat} {n i : Nat} (h : IsP l n) (hi : i < n) : l.getD i 0 < n := by
  have hl := h.len
  have : l.getD i 0 = l[i] := by simp [show i < l.length by omega]
  rw [this]
  exact h.mem.mp (List.getElem_mem (by omega))
theorem IsP.idx_lt {l : List Nat} {n k : Nat} (h : IsP l n) (hk : k < n) : l.idxOf k < n := by
  rw [← h.len]
  exact List.idxOf_lt_length_of_mem (h.mem.mpr hk)
theorem IsP.get_idx {l : List Nat} {n k : Nat} (h : IsP l n) (hk : k < n) : l.getD (l.idxOf k) 0 = k := by
  have hi := List.idxOf_lt_length_of_mem (h.mem.mpr hk)
  have : l.getD (l.idxOf k) 0 = l[l.idxOf k] := by simp [hi]
  rw [this]
  exact List.getElem_idxOf hi
theorem IsP.idx_get {l : List Nat} {n i : Nat} (h : IsP l n) (hi : i < n) : l.idxOf (l.getD i 0) = i := by
  have hl := h.len
  have e := h.get_idx (h.get_lt hi)
  have h1 := h.idx_lt (h.get_lt hi)
  have a : l.getD (l.idxOf (l.getD i 0)) 0 = l[l.idxOf (l.getD i 0)]'(by omega) := getD_el _
  have b : l.getD i 0 = l[i]'(by omega) := getD_el _
  have e2 : l[l.idxOf (l.getD i 0)]'(by omega) = l[i]'(by omega) := by rw [← a, e, b]
  exact (List.getElem_inj h.nd).mp e2
theorem IsP.idx_inj {l : List Nat} {n a b : Nat} (h : IsP l n) (ha : a < n) (hb : b < n) (e : l.idxOf a = l.idxOf b) : a = b := by
  rw [← h.get_idx ha, ← h.get_idx hb, e]
/-- a nodup list of n numbers below n has them all -/
theorem full_of : ∀ {n : Nat} {l : List Nat}, l.Nodup → (∀ x ∈ l, x < n) → n ≤ l.length → ∀ x, x < n → x ∈ l := fun {n l} nd lt hl x hx => by
  apply Classical.byContradiction
  intro hm
  have nd2 : (x :: l).Nodup := List.nodup_cons.mpr ⟨hm, nd⟩
  have := nodup_len (n := n) nd2 fun y hy => by
    rcases List.mem_cons.mp hy with e | hy
    · rw [e]; exact hx
    · exact lt y hy
  simp at this
  omega
/-! ### couples -/
section
variable (one two : List (List Nat)) (n : Nat)
/-- two sides of n -/
structure Sides : Prop where
  n1 : 1 ≤ n
  n6 : n ≤ 6
  l1 : one.length = n
  l2 : two.length = n
  p1 : ∀ r ∈ one, IsP r n
  p2 : ∀ r ∈ two, IsP r n
abbrev pf (i j : Nat) : Nat := (one.getD i []).getD j 0
abbrev rk (rows : List (List Nat)) (i k : Nat) : Nat := (rows.getD i []).idxOf k
def Blocks (N : List Nat) (i k : Nat) : Prop := rk one i k < rk one i (N.getD i 0) ∧ rk two k i < rk two k (N.idxOf k)
def Stable (N : List Nat) : Prop := ∀ i k, i < n → k < n → ¬ Blocks one two N i k
end
section
variable {one two : List (List Nat)} {n : Nat}
theorem Sides.r1 (s : Sides one two n) {i : Nat} (hi : i < n) : IsP (one.getD i []) n := by
  have : one.getD i [] = one[i]'(by rw [s.l1]; exact hi) := by simp [show i < one.length by rw [s.l1]; exact hi]
  rw [this]
  exact s.p1 _ (List.getElem_mem _)
theorem Sides.r2 (s : Sides one two n) {i : Nat} (hi : i < n) : IsP (two.getD i []) n := by
  have : two.getD i [] = two[i]'(by rw [s.l2]; exact hi) := by simp [show i < two.length by rw [s.l2]; exact hi]
  rw [this]
  exact s.p2 _ (List.getElem_mem _)
theorem Sides.swap (s : Sides one two n) : Sides two one n := ⟨s.n1, s.n6, s.l2, s.l1, s.p2, s.p1⟩
/-! ### courting -/
structure GS where
  pl : List Nat
  ho : List (Option Nat)
  fr : List Nat
/-- one turn -/
def GS.step (one two : List (List Nat)) (s : GS) : GS :=
  match s.fr with
  | [] => s
  | i :: fr =>
    let k := pf one i (s.pl.getD i 0)
    let pl := s.pl.set i (s.pl.getD i 0 + 1)
    match s.ho.getD k none with
    | none => ⟨pl, s.ho.set k (some i), fr⟩
    | some h => if rk two k i < rk two k h then ⟨pl, s.ho.set k (some i), fr ++ [h]⟩ else ⟨pl, s.ho, fr ++ [i]⟩
structure Inv (one two : List (List Nat)) (n : Nat) (s : GS) : Prop where
  lp : s.pl.length = n
  lh : s.ho.length = n
  ple : ∀ i, i < n → s.pl.getD i 0 ≤ n
  nd : s.fr.Nodup
  fr : ∀ i, i ∈ s.fr ↔ i < n ∧ ∀ k, k < n → s.ho.getD k none ≠ some i
  hlt : ∀ k i, k < n → s.ho.getD k none = some i → i < n ∧ 1 ≤ s.pl.getD i 0 ∧ pf one i (s.pl.getD i 0 - 1) = k
  kept : ∀ i j, i < n → j < s.pl.getD i 0 → ∃ h, s.ho.getD (pf one i j) none = some h ∧ rk two (pf one i j) h ≤ rk two (pf one i j) i
  best : ∀ i j, i < n → j < s.pl.getD i 0 → s.ho.getD (pf one i j) none ≠ some i → ∀ N, IsP N n → Stable one two n N → N.getD i 0 ≠ pf one i j
theorem getD_set_eq {α : Type} {l : List α} {i : Nat} {a d : α} (h : i < l.length) : (l.set i a).getD i d = a := by simp [h]
theorem getD_set_ne {α : Type} {l : List α} {i j : Nat} {a d : α} (h : i ≠ j) : (l.set i a).getD j d = l.getD j d := by
  simp [List.getD_eq_getElem?_getD, List.getElem?_set_ne h]
def GS.start (n : Nat) : GS := ⟨List.replicate n 0, List.replicate n none, List.range n⟩
theorem inv_start (s : Sides one two n) : Inv one two n (GS.start n) where
  lp := by simp [GS.start]
  lh := by simp [GS.start]
  ple := fun i hi => by simp [GS.start, hi]
  nd := List.nodup_range
  fr := fun i => by
    show i ∈ List.range n ↔ _
    rw [List.mem_range]
    refine ⟨fun h => ⟨h, fun k hk e => ?_⟩, fun h => h.1⟩
    simp [GS.start, hk] at e
  hlt := fun k i hk e => by simp [GS.start, hk] at e
  kept := fun i j hi hj => by simp [GS.start, hi] at hj
  best := fun i j hi hj => by simp [GS.start, hi] at hj
/-- who is free has somebody to ask -/
theorem ask_ok (sd : Sides one two n) {s : GS} (v : Inv one two n s) {i : Nat} (hi : i ∈ s.fr) : s.pl.getD i 0 < n := by
  obtain ⟨hin, hno⟩ := (v.fr i).mp hi
  have hle := v.ple i hin
  apply Classical.byContradiction
  intro hge
  have hp : s.pl.getD i 0 = n := by omega
  -- all are held
  have all : ∀ k, k < n → ∃ h, s.ho.getD k none = some h := fun k hk => by
    obtain ⟨h, e, _⟩ := v.kept i ((one.getD i []).idxOf k) hin (by rw [hp]; exact (sd.r1 hin).idx_lt hk)
    rw [show pf one i ((one.getD i []).idxOf k) = k from (sd.r1 hin).get_idx hk] at e
    exact ⟨h, e⟩
  let hs := (List.range n).map fun k => (s.ho.getD k none).getD 0
  have hnd : hs.Nodup := nodup_rangeM fun a b ha hb e => by
    obtain ⟨x, ex⟩ := all a ha
    obtain ⟨y, ey⟩ := all b hb
    rw [ex, ey] at e
    have e : x = y := e
    subst e
    have h1 := (v.hlt a x ha ex).2.2
    have h2 := (v.hlt b x hb ey).2.2
    omega
  have hlt : ∀ x ∈ hs, x < n := fun x hx => by
    obtain ⟨k, hk, rfl⟩ := List.mem_map.mp hx
    have hk := List.mem_range.mp hk
    obtain ⟨h, e⟩ := all k hk
    rw [e]
    exact (v.hlt k h hk e).1
  have him := full_of hnd hlt (by simp [hs]) i hin
  obtain ⟨k, hk, e⟩ := List.mem_map.mp him
  have hk := List.mem_range.mp hk
  obtain ⟨h, e2⟩ := all k hk
  rw [e2] at e
  have e : h = i := e
  subst e
  exact hno k hk e2
/-- who loses k to w, who holds k and was sent away by all that they like better, is in no couples in rest with k -/
theorem sent_away (sd : Sides one two n) {N : List Nat} {w r k : Nat} (hN : IsP N n) (st : Stable one two n N) (hw : w < n) (hr : r < n) (hk : k < n) (lt : rk two k w < rk two k r)
    (bf : ∀ j, j < rk one w k → N.getD w 0 ≠ pf one w j) : N.getD r 0 ≠ k := fun e => by
  have ir : N.idxOf k = r := by rw [← e]; exact hN.idx_get hr
  refine st w k hw hk ⟨?_, by rw [ir]; exact lt⟩
  have hNw := hN.get_lt hw
  have ne : N.getD w 0 ≠ k := fun z => by
    have : w = r := by rw [← ir, ← z]; exact (hN.idx_get hw).symm
    subst this
    exact absurd lt (Nat.lt_irrefl _)
  apply Classical.byContradiction
  intro nl
  have lt2 : rk one w (N.getD w 0) < rk one w k := by
    have : rk one w (N.getD w 0) ≠ rk one w k := fun z => ne ((sd.r1 hw).idx_inj hNw hk z)
    omega
  exact bf _ lt2 ((sd.r1 hw).get_idx hNw).symm
theorem inv_step (sd : Sides one two n) {s : GS} (v : Inv one two n s) (ne : s.fr ≠ []) : Inv one two n (s.step one two) ∧ (s.step one two).pl.sum = s.pl.sum + 1 := by
  obtain ⟨pl, ho, fr0⟩ := s
  cases fr0 with
  | nil => exact absurd rfl ne
  | cons i fr =>
    have hp := ask_ok sd v (i := i) List.mem_cons_self
    obtain ⟨hin, hno⟩ := (v.fr i).mp List.mem_cons_self
    have lp : pl.length = n := v.lp
    have lh : ho.length = n := v.lh
    have ple : ∀ i, i < n → pl.getD i 0 ≤ n := v.ple
    have nd : i ∉ fr ∧ fr.Nodup := List.nodup_cons.mp v.nd
    have vfr : ∀ x, x ∈ i :: fr ↔ x < n ∧ ∀ k, k < n → ho.getD k none ≠ some x := v.fr
    have vhlt : ∀ k i, k < n → ho.getD k none = some i → i < n ∧ 1 ≤ pl.getD i 0 ∧ pf one i (pl.getD i 0 - 1) = k := v.hlt
    have vkept : ∀ i j, i < n → j < pl.getD i 0 → ∃ h, ho.getD (pf one i j) none = some h ∧ rk two (pf one i j) h ≤ rk two (pf one i j) i := v.kept
    have vbest : ∀ i j, i < n → j < pl.getD i 0 → ho.getD (pf one i j) none ≠ some i → ∀ N, IsP N n → Stable one two n N → N.getD i 0 ≠ pf one i j := v.best
    have hp : pl.getD i 0 < n := hp
    have hk : pf one i (pl.getD i 0) < n := (sd.r1 hin).get_lt hp
    have rki : rk one i (pf one i (pl.getD i 0)) = pl.getD i 0 := (sd.r1 hin).idx_get hp
    -- the places after the turn
    have p1 : (pl.set i (pl.getD i 0 + 1)).getD i 0 = pl.getD i 0 + 1 := getD_set_eq (by omega)
    have p2 : ∀ x, x ≠ i → (pl.set i (pl.getD i 0 + 1)).getD x 0 = pl.getD x 0 := fun x hx => getD_set_ne (Ne.symm hx)
    have psum : (pl.set i (pl.getD i 0 + 1)).sum = pl.sum + 1 := by
      have : ∀ (l : List Nat) (a : Nat), a < l.length → (l.set a (l.getD a 0 + 1)).sum = l.sum + 1 := by
        intro l
        induction l with
        | nil => intro a ha; simp at ha
        | cons x l ih =>
          intro a ha
          cases a with
          | zero => simp; omega
          | succ a =>
            have := ih a (by simpa using ha)
            simp only [List.set_cons_succ, List.sum_cons, List.getD_cons_succ] at this ⊢
            omega
      exact this pl i (by omega)
    have pple : ∀ x, x < n → (pl.set i (pl.getD i 0 + 1)).getD x 0 ≤ n := fun x hx => by
      by_cases e : x = i
      · subst e; rw [p1]; omega
      · rw [p2 x e]; exact ple x hx
    -- nobody holds i
    have nfree : ∀ k, k < n → ho.getD k none ≠ some i := hno
    -- all that i asked ahead of k have sent i away
    have bfi : ∀ N, IsP N n → Stable one two n N → ∀ j, j < pl.getD i 0 → N.getD i 0 ≠ pf one i j := fun N hN st j hj => vbest i j hin hj (nfree _ ((sd.r1 hin).get_lt (by omega))) N hN st
    -- the same of a holder
    have bfh : ∀ k h, k < n → ho.getD k none = some h → ∀ N, IsP N n → Stable one two n N → ∀ j, j < rk one h k → N.getD h 0 ≠ pf one h j := fun k h hk e N hN st j hj => by
      obtain ⟨h1, h2, h3⟩ := vhlt k h hk e
      have hple := ple h h1
      have rkh : rk one h k = pl.getD h 0 - 1 := by rw [← h3]; exact (sd.r1 h1).idx_get (by omega)
      refine vbest h j h1 (by omega) (fun z => ?_) N hN st
      obtain ⟨_, _, h4⟩ := vhlt _ h ((sd.r1 h1).get_lt (by omega)) z
      have : pl.getD h 0 - 1 = j := by
        have e1 := (sd.r1 h1).idx_get (i := j) (by omega)
        have e2 := (sd.r1 h1).idx_get (i := pl.getD h 0 - 1) (by omega)
        have h4 : (one.getD h []).getD (pl.getD h 0 - 1) 0 = (one.getD h []).getD j 0 := h4
        rw [← e1, ← e2, h4]
      omega
    generalize hkk : pf one i (pl.getD i 0) = k at hk rki
    -- a state in which k is held by i now
    have take : ∀ (fr' : List Nat), fr'.Nodup → (∀ x, x ∈ fr' ↔ x < n ∧ ∀ a, a < n → (ho.set k (some i)).getD a none ≠ some x) →
        (∀ h, ho.getD k none = some h → rk two k i < rk two k h) → Inv one two n ⟨pl.set i (pl.getD i 0 + 1), ho.set k (some i), fr'⟩ := fun fr' nd' hf better => by
      have g1 : (ho.set k (some i)).getD k none = some i := getD_set_eq (by omega)
      have g2 : ∀ a, a ≠ k → (ho.set k (some i)).getD a none = ho.getD a none := fun a ha => getD_set_ne (Ne.symm ha)
      refine ⟨by rw [List.length_set]; exact lp, by rw [List.length_set]; exact lh, pple, nd', hf, fun a x ha e => ?_, fun x j hx hj => ?_, fun x j hx hj hne N hN st => ?_⟩
      · by_cases hak : a = k
        · subst hak
          have e : some i = some x := by rw [← g1]; exact e
          cases e
          refine ⟨hin, by rw [p1]; omega, ?_⟩
          show pf one i ((pl.set i (pl.getD i 0 + 1)).getD i 0 - 1) = a
          rw [p1]
          exact hkk
        · have e : ho.getD a none = some x := by rw [← g2 a hak]; exact e
          have hxi : x ≠ i := fun z => nfree a ha (z ▸ e)
          obtain ⟨h1, h2, h3⟩ := vhlt a x ha e
          refine ⟨h1, by rw [p2 x hxi]; exact h2, ?_⟩
          show pf one x ((pl.set i (pl.getD i 0 + 1)).getD x 0 - 1) = a
          rw [p2 x hxi]
          exact h3
      · show ∃ h, (ho.set k (some i)).getD (pf one x j) none = some h ∧ _
        by_cases hxk : pf one x j = k
        · rw [hxk]
          refine ⟨i, g1, ?_⟩
          by_cases hxi : x = i
          · rw [hxi]; exact Nat.le_refl _
          · have hj : j < pl.getD x 0 := by rw [← p2 x hxi]; exact hj
            obtain ⟨h, e, hle⟩ := vkept x j hx hj
            rw [hxk] at e hle
            have := better h e
            omega
        · rw [g2 _ hxk]
          by_cases hxi : x = i
          · subst hxi
            have hj : j < pl.getD x 0 + 1 := by rw [← p1]; exact hj
            have : j ≠ pl.getD x 0 := fun z => hxk (by rw [z]; exact hkk)
            exact vkept x j hx (by omega)
          · have hj : j < pl.getD x 0 := by rw [← p2 x hxi]; exact hj
            exact vkept x j hx hj
      · have hnq : (ho.set k (some i)).getD (pf one x j) none ≠ some x := hne
        by_cases hxk : pf one x j = k
        · rw [hxk] at hnq ⊢
          rw [g1] at hnq
          have hxi : x ≠ i := fun z => hnq (by rw [z])
          have hj : j < pl.getD x 0 := by rw [← p2 x hxi]; exact hj
          obtain ⟨h, e, hle⟩ := vkept x j hx hj
          rw [hxk] at e hle
          have := better h e
          exact sent_away sd hN st hin hx hk (by omega) (by rw [rki]; exact bfi N hN st)
        · rw [g2 _ hxk] at hnq
          by_cases hxi : x = i
          · subst hxi
            have hj : j < pl.getD x 0 + 1 := by rw [← p1]; exact hj
            have : j ≠ pl.getD x 0 := fun z => hxk (by rw [z]; exact hkk)
            exact vbest x j hx (by omega) hnq N hN st
          · have hj : j < pl.getD x 0 := by rw [← p2 x hxi]; exact hj
            exact vbest x j hx hj hnq N hN st
    unfold GS.step
    simp only [hkk]
    have g1 : (ho.set k (some i)).getD k none = some i := getD_set_eq (by omega)
    have g2 : ∀ a, a ≠ k → (ho.set k (some i)).getD a none = ho.getD a none := fun a ha => getD_set_ne (Ne.symm ha)
    cases eh : ho.getD k none with
    | none =>
      simp only [eh]
      refine ⟨take fr nd.2 (fun x => ?_) (fun h z => by rw [eh] at z; cases z), psum⟩
      constructor
      · intro hx
        obtain ⟨h1, h2⟩ := (vfr x).mp (List.mem_cons_of_mem _ hx)
        refine ⟨h1, fun a ha z => ?_⟩
        by_cases hak : a = k
        · rw [hak, g1] at z
          cases z
          exact nd.1 hx
        · rw [g2 a hak] at z
          exact h2 a ha z
      · intro ⟨h1, h2⟩
        have : x ∈ i :: fr := (vfr x).mpr ⟨h1, fun a ha z => by
          by_cases hak : a = k
          · rw [hak, eh] at z; cases z
          · exact h2 a ha (by rw [g2 a hak]; exact z)⟩
        rcases List.mem_cons.mp this with e | h
        · exact absurd (by rw [g1, e]) (h2 k hk)
        · exact h
    | some h =>
      simp only [eh]
      obtain ⟨hh1, hh2, hh3⟩ := vhlt k h hk eh
      have hhi : h ≠ i := fun z => nfree k hk (z ▸ eh)
      have hfr : h ∉ i :: fr := fun z => ((vfr h).mp z).2 k hk eh
      -- a holder holds one only
      have uniq : ∀ a, a < n → ho.getD a none = some h → a = k := fun a ha e => by
        obtain ⟨_, _, h4⟩ := vhlt a h ha e
        omega
      by_cases hlt : rk two k i < rk two k h
      · rw [if_pos hlt]
        refine ⟨take (fr ++ [h]) ?_ (fun x => ?_) (fun h' z => by rw [eh] at z; cases z; exact hlt), psum⟩
        · exact List.nodup_append.mpr ⟨nd.2, by simp, fun a ha b hb => by
            rw [List.mem_singleton.mp hb]
            intro z
            exact hfr (List.mem_cons_of_mem _ (z ▸ ha))⟩
        · constructor
          · intro hx
            rcases List.mem_append.mp hx with hx | hx
            · obtain ⟨h1, h2⟩ := (vfr x).mp (List.mem_cons_of_mem _ hx)
              refine ⟨h1, fun a ha z => ?_⟩
              by_cases hak : a = k
              · rw [hak, g1] at z
                cases z
                exact nd.1 hx
              · rw [g2 a hak] at z
                exact h2 a ha z
            · rw [List.mem_singleton.mp hx]
              refine ⟨hh1, fun a ha z => ?_⟩
              by_cases hak : a = k
              · rw [hak, g1] at z
                cases z
                exact hhi rfl
              · rw [g2 a hak] at z
                exact hak (uniq a ha z)
          · intro ⟨h1, h2⟩
            by_cases hxh : x = h
            · rw [hxh]; simp
            · have : x ∈ i :: fr := (vfr x).mpr ⟨h1, fun a ha z => by
                by_cases hak : a = k
                · rw [hak, eh] at z; cases z; exact hxh rfl
                · exact h2 a ha (by rw [g2 a hak]; exact z)⟩
              rcases List.mem_cons.mp this with e | h'
              · exact absurd (by rw [g1, e]) (h2 k hk)
              · exact List.mem_append_left _ h'
      · rw [if_neg hlt]
        refine ⟨⟨by rw [List.length_set]; exact lp, lh, pple, ?_, fun x => ?_, fun a x ha e => ?_, fun x j hx hj => ?_, fun x j hx hj hne N hN st => ?_⟩, psum⟩
        · exact List.nodup_append.mpr ⟨nd.2, by simp, fun a ha b hb => by
            rw [List.mem_singleton.mp hb]
            intro z
            exact nd.1 (z ▸ ha)⟩
        · rw [← vfr x]
          simp [or_comm]
        · obtain ⟨h1, h2, h3⟩ := vhlt a x ha e
          have hxi : x ≠ i := fun z => nfree a ha (z ▸ e)
          refine ⟨h1, by rw [p2 x hxi]; exact h2, ?_⟩
          show pf one x ((pl.set i (pl.getD i 0 + 1)).getD x 0 - 1) = a
          rw [p2 x hxi]
          exact h3
        · by_cases hxi : x = i
          · subst hxi
            have hj : j < pl.getD x 0 + 1 := by rw [← p1]; exact hj
            by_cases hjp : j = pl.getD x 0
            · subst hjp
              refine ⟨h, ?_, ?_⟩
              · show ho.getD (pf one x (pl.getD x 0)) none = some h
                rw [hkk]; exact eh
              · rw [hkk]; omega
            · exact vkept x j hx (by omega)
          · have hj : j < pl.getD x 0 := by rw [← p2 x hxi]; exact hj
            exact vkept x j hx hj
        · by_cases hxi : x = i
          · subst hxi
            have hj : j < pl.getD x 0 + 1 := by rw [← p1]; exact hj
            by_cases hjp : j = pl.getD x 0
            · subst hjp
              rw [hkk]
              have hne2 : rk two k h ≠ rk two k x := fun z => hhi ((sd.r2 hk).idx_inj hh1 hx z)
              exact sent_away sd hN st hh1 hx hk (by omega) (bfh k h hk eh N hN st)
            · exact vbest x j hx (by omega) hne N hN st
          · have hj : j < pl.getD x 0 := by rw [← p2 x hxi]; exact hj
            exact vbest x j hx hj hne N hN st
/-- whom each one has at the end -/
def GS.out (n : Nat) (s : GS) : List Nat := (List.range n).map fun i => s.ho.findIdx fun o => decide (o = some i)
theorem sum_le_mul {B : Nat} : ∀ (l : List Nat), (∀ x ∈ l, x ≤ B) → l.sum ≤ l.length * B
  | [], _ => by simp
  | a :: l, h => by
    have := sum_le_mul l fun x hx => h x (List.mem_cons_of_mem _ hx)
    have := h a List.mem_cons_self
    rw [List.sum_cons, List.length_cons, Nat.add_mul]
    omega
theorem Inv.sum_le {s : GS} (v : Inv one two n s) : s.pl.sum ≤ n * n := by
  have := sum_le_mul (B := n) s.pl fun x hx => by
    obtain ⟨i, hi, rfl⟩ := List.getElem_of_mem hx
    have := v.ple i (by have := v.lp; omega)
    simpa [hi] using this
  rwa [v.lp] at this
section
variable {s : GS}
theorem end_holds (v : Inv one two n s) (e : s.fr = []) {i : Nat} (hi : i < n) : (s.out n).getD i 0 < n ∧ s.ho.getD ((s.out n).getD i 0) none = some i := by
  have hno : i ∉ s.fr := by rw [e]; simp
  have : ¬ ∀ k, k < n → s.ho.getD k none ≠ some i := fun z => hno ((v.fr i).mpr ⟨hi, z⟩)
  obtain ⟨k, hk, ek⟩ : ∃ k, k < n ∧ s.ho.getD k none = some i := by
    apply Classical.byContradiction
    intro z
    exact this fun k hk ek => z ⟨k, hk, ek⟩
  have lh := v.lh
  have hm : ∃ x ∈ s.ho, (fun o => decide (o = some i)) x = true := by
    refine ⟨s.ho[k]'(by omega), List.getElem_mem _, ?_⟩
    have : s.ho.getD k none = s.ho[k]'(by omega) := by simp [show k < s.ho.length by omega]
    rw [← this, ek]
    simp
  have hl : s.ho.findIdx (fun o => decide (o = some i)) < s.ho.length := List.findIdx_lt_length_of_exists hm
  have eo : (s.out n).getD i 0 = s.ho.findIdx (fun o => decide (o = some i)) := by simp [GS.out, hi]
  rw [eo]
  refine ⟨by omega, ?_⟩
  rw [getD_el hl]
  exact of_decide_eq_true (List.findIdx_getElem (w := hl))
theorem out_len : (s.out n).length = n := by simp [GS.out]
theorem out_perm (v : Inv one two n s) (e : s.fr = []) : IsP (s.out n) n := by
  have nd : (s.out n).Nodup := nodup_rangeM fun a b ha hb z => by
    have a1 := (end_holds v e ha).2
    have b1 := (end_holds v e hb).2
    have ea : (s.out n).getD a 0 = s.ho.findIdx (fun o => decide (o = some a)) := by simp [GS.out, ha]
    have eb : (s.out n).getD b 0 = s.ho.findIdx (fun o => decide (o = some b)) := by simp [GS.out, hb]
    rw [ea, z, ← eb, b1] at a1
    exact (Option.some.inj a1).symm
  refine (List.perm_ext_iff_of_nodup nd List.nodup_range).mpr fun x => ?_
  rw [List.mem_range]
  refine ⟨fun hx => ?_, fun hx => ?_⟩
  · obtain ⟨i, hi, rfl⟩ := List.getElem_of_mem hx
    have h1 := (end_holds v e (i := i) (by rw [out_len] at hi; exact hi)).1
    simpa [hi] using h1
  · refine full_of (n := n) nd (fun y hy => ?_) (by rw [out_len]; exact Nat.le_refl _) x hx
    obtain ⟨i, hi, rfl⟩ := List.getElem_of_mem hy
    have h1 := (end_holds v e (i := i) (by rw [out_len] at hi; exact hi)).1
    simpa [hi] using h1
theorem out_last (sd : Sides one two n) (v : Inv one two n s) (e : s.fr = []) {i : Nat} (hi : i < n) : 1 ≤ s.pl.getD i 0 ∧ rk one i ((s.out n).getD i 0) = s.pl.getD i 0 - 1 := by
  obtain ⟨h1, h2⟩ := end_holds v e hi
  obtain ⟨_, h4, h5⟩ := v.hlt _ i h1 h2
  have := v.ple i hi
  refine ⟨h4, ?_⟩
  have z := (sd.r1 hi).idx_get (i := s.pl.getD i 0 - 1) (by omega)
  rw [show (one.getD i []).getD (s.pl.getD i 0 - 1) 0 = (s.out n).getD i 0 from h5] at z
  exact z
theorem out_inv (v : Inv one two n s) (e : s.fr = []) {k h : Nat} (hk : k < n) (eh : s.ho.getD k none = some h) : (s.out n).idxOf k = h := by
  obtain ⟨h1, h2, h3⟩ := v.hlt k h hk eh
  obtain ⟨a1, a2⟩ := end_holds v e h1
  obtain ⟨_, _, h4⟩ := v.hlt _ h a1 a2
  have : (s.out n).getD h 0 = k := by rw [← h4, h3]
  rw [← this]
  exact (out_perm v e).idx_get h1
theorem out_stable (sd : Sides one two n) (v : Inv one two n s) (e : s.fr = []) : Stable one two n (s.out n) := fun i k hi hk ⟨b1, b2⟩ => by
  obtain ⟨l1, l2⟩ := out_last sd v e hi
  rw [l2] at b1
  obtain ⟨h, e1, e2⟩ := v.kept i (rk one i k) hi (by omega)
  rw [show pf one i (rk one i k) = k from (sd.r1 hi).get_idx hk] at e1 e2
  rw [out_inv v e hk e1] at b2
  omega
theorem out_best (sd : Sides one two n) (v : Inv one two n s) (e : s.fr = []) {N : List Nat} (hN : IsP N n) (st : Stable one two n N) {i : Nat} (hi : i < n) : rk one i ((s.out n).getD i 0) ≤ rk one i (N.getD i 0) := by
  obtain ⟨l1, l2⟩ := out_last sd v e hi
  apply Classical.byContradiction
  intro nl
  have hNi := hN.get_lt hi
  have gi : pf one i (rk one i (N.getD i 0)) = N.getD i 0 := (sd.r1 hi).get_idx hNi
  refine v.best i (rk one i (N.getD i 0)) hi (by omega) (fun z => ?_) N hN st gi.symm
  rw [gi] at z
  obtain ⟨_, _, h4⟩ := v.hlt _ i hNi z
  have := (sd.r1 hi).idx_get (i := s.pl.getD i 0 - 1) (by have := v.ple i hi; omega)
  rw [show (one.getD i []).getD (s.pl.getD i 0 - 1) 0 = N.getD i 0 from h4] at this
  have this : rk one i (N.getD i 0) = s.pl.getD i 0 - 1 := this
  omega
theorem out_worst (sd : Sides one two n) (v : Inv one two n s) (e : s.fr = []) {N : List Nat} (hN : IsP N n) (st : Stable one two n N) {k : Nat} (hk : k < n) : rk two k (N.idxOf k) ≤ rk two k ((s.out n).idxOf k) := by
  have hM := out_perm v e
  apply Classical.byContradiction
  intro nl
  have hi := hM.idx_lt hk
  have gk : (s.out n).getD ((s.out n).idxOf k) 0 = k := hM.get_idx hk
  have hb := out_best sd v e hN st hi
  rw [gk] at hb
  refine st ((s.out n).idxOf k) k hi hk ⟨?_, by omega⟩
  have ne : N.getD ((s.out n).idxOf k) 0 ≠ k := fun z => by
    have : N.idxOf k = (s.out n).idxOf k := by
      have := hN.idx_get hi
      rw [z] at this
      exact this
    rw [this] at nl
    omega
  have : rk one ((s.out n).idxOf k) (N.getD ((s.out n).idxOf k) 0) ≠ rk one ((s.out n).idxOf k) k := fun z => ne ((sd.r1 hi).idx_inj (hN.get_lt hi) hk z)
  omega
end
theorem gs_ends (sd : Sides one two n) : ∀ (m : Nat) {s : GS}, Inv one two n s → n * n ≤ s.pl.sum + m → ∃ t, Inv one two n t ∧ t.fr = []
  | 0, s, v, h => by
    by_cases e : s.fr = []
    · exact ⟨s, v, e⟩
    · obtain ⟨v2, e2⟩ := inv_step sd v e
      have := v2.sum_le
      omega
  | m + 1, s, v, h => by
    by_cases e : s.fr = []
    · exact ⟨s, v, e⟩
    · obtain ⟨v2, e2⟩ := inv_step sd v e
      exact gs_ends sd m v2 (by omega)
theorem rest_ex (sd : Sides one two n) : ∃ N, IsP N n ∧ Stable one two n N := by
  obtain ⟨t, v, e⟩ := gs_ends sd (n * n) (inv_start sd) (by omega)
  exact ⟨_, out_perm v e, out_stable sd v e⟩
end
/-! ### votes -/
def sg (a b : Nat) : Int := (if b < a then 1 else 0) - (if a < b then 1 else 0)
theorem sg_neg (a b : Nat) : sg b a = - sg a b := by unfold sg; omega
section
variable (one two : List (List Nat))
def vote (M N : List Nat) (i : Nat) : Int := sg (rk one i (M.getD i 0)) (rk one i (N.getD i 0)) + sg (rk two i (M.idxOf i)) (rk two i (N.idxOf i))
def votesK (M N : List Nat) (k : Nat) : Int := ((List.range k).map (vote one two M N)).sum
end
section
variable {one two : List (List Nat)} {n : Nat} {M N : List Nat}
theorem votesK_succ (k : Nat) : votesK one two M N (k + 1) = votesK one two M N k + vote one two M N k := by
  unfold votesK
  rw [List.range_succ, List.map_append, List.sum_append]
  simp
theorem votes_neg (k : Nat) : votesK one two N M k = - votesK one two M N k := by
  unfold votesK
  rw [← sum_negI]
  congr 1
  apply List.map_congr_left
  intro i _
  unfold vote
  rw [sg_neg, sg_neg (rk two i (M.idxOf i))]
  omega
/-- couples in rest are popular -/
theorem rest_popular (sd : Sides one two n) (hM : IsP M n) (hN : IsP N n) (st : Stable one two n M) : votesK one two M N n ≤ 0 := by
  have e : votesK one two M N n = ((List.range n).map fun i => sg (rk one i (M.getD i 0)) (rk one i (N.getD i 0)) + sg (rk two (N.getD i 0) (M.idxOf (N.getD i 0))) (rk two (N.getD i 0) (N.idxOf (N.getD i 0)))).sum := by
    unfold votesK vote
    rw [sum_addI, sum_addI]
    congr 1
    have e1 : ((List.range n).map fun i => sg (rk two (N.getD i 0) (M.idxOf (N.getD i 0))) (rk two (N.getD i 0) (N.idxOf (N.getD i 0)))) = N.map fun k => sg (rk two k (M.idxOf k)) (rk two k (N.idxOf k)) := by
      apply List.ext_getElem
      · simp [hN.len]
      · intro i h1 h2
        have hi : i < N.length := by simpa using h2
        simp only [List.getElem_map, List.getElem_range, getD_el hi]
    rw [e1]
    exact (perm_sum (hN.map _)).symm
  rw [e]
  refine sum_le0 fun i hi => ?_
  have hi := List.mem_range.mp hi
  have hNi := hN.get_lt hi
  rw [hN.idx_get hi]
  by_cases same : N.getD i 0 = M.getD i 0
  · rw [same, hM.idx_get hi]
    unfold sg
    omega
  · have nb := st i (N.getD i 0) hi hNi
    have d1 : rk one i (N.getD i 0) ≠ rk one i (M.getD i 0) := fun z => same ((sd.r1 hi).idx_inj hNi (hM.get_lt hi) z)
    have d2 : rk two (N.getD i 0) i ≠ rk two (N.getD i 0) (M.idxOf (N.getD i 0)) := fun z => by
      have := (sd.r2 hNi).idx_inj hi (hM.idx_lt hNi) z
      have e3 := hM.get_idx hNi
      rw [← this] at e3
      exact same e3.symm
    have nb : ¬ (rk one i (N.getD i 0) < rk one i (M.getD i 0) ∧ rk two (N.getD i 0) i < rk two (N.getD i 0) (M.idxOf (N.getD i 0))) := nb
    unfold sg
    split <;> split <;> split <;> split <;> omega
end
/-! ### all orders -/
def pstep (n : Nat) (rs : List (List Nat)) : List (List Nat) := rs.flatMap fun r => ((List.range n).filter fun x => !decide (x ∈ r)).map fun x => r ++ [x]
def permsK (n : Nat) : Nat → List (List Nat)
  | 0 => [[]]
  | k + 1 => pstep n (permsK n k)
theorem permsK_mem (n : Nat) : ∀ (k : Nat) (r : List Nat), r ∈ permsK n k ↔ r.length = k ∧ r.Nodup ∧ ∀ x ∈ r, x < n
  | 0, r => by
    show r ∈ [[]] ↔ _
    rw [List.mem_singleton]
    constructor
    · rintro rfl; exact ⟨rfl, List.nodup_nil, fun _ h => by cases h⟩
    · intro h; exact List.length_eq_zero_iff.mp h.1
  | k + 1, r => by
    have ih := permsK_mem n k
    show r ∈ pstep n (permsK n k) ↔ _
    unfold pstep
    rw [List.mem_flatMap]
    constructor
    · rintro ⟨q, hq, h⟩
      obtain ⟨x, hx, rfl⟩ := List.mem_map.mp h
      obtain ⟨hx1, hx2⟩ := List.mem_filter.mp hx
      obtain ⟨q1, q2, q3⟩ := (ih q).mp hq
      have hx2 : x ∉ q := by simpa using hx2
      refine ⟨by simp [q1], List.nodup_append.mpr ⟨q2, by simp, fun a ha b hb => ?_⟩, fun y hy => ?_⟩
      · rw [List.mem_singleton.mp hb]
        exact fun z => hx2 (z ▸ ha)
      · rcases List.mem_append.mp hy with hy | hy
        · exact q3 y hy
        · rw [List.mem_singleton.mp hy]; exact List.mem_range.mp hx1
    · rintro ⟨h1, h2, h3⟩
      have ne : r ≠ [] := fun z => by rw [z] at h1; simp at h1
      have er := List.dropLast_concat_getLast ne
      have hm : r.getLast ne ∈ r := List.getLast_mem ne
      rw [← er] at h2
      obtain ⟨a1, _, a3⟩ := List.nodup_append.mp h2
      refine ⟨r.dropLast, (ih _).mpr ⟨by rw [List.length_dropLast]; omega, a1, fun x hx => h3 x (List.dropLast_subset r hx)⟩, List.mem_map.mpr ⟨r.getLast ne, List.mem_filter.mpr ⟨List.mem_range.mpr (h3 _ hm), ?_⟩, er⟩⟩
      have : r.getLast ne ∉ r.dropLast := fun z => a3 _ z _ List.mem_cons_self rfl
      simpa using this
theorem permsK_len (n : Nat) : ∀ k, (permsK n k).length ≤ n ^ k
  | 0 => by simp [permsK]
  | k + 1 => by
    have ih := permsK_len n k
    have key : ∀ rs : List (List Nat), (pstep n rs).length ≤ rs.length * n := fun rs => by
      unfold pstep
      induction rs with
      | nil => simp
      | cons r rs ih =>
        rw [List.flatMap_cons, List.length_append, List.length_cons, Nat.add_mul, List.length_map]
        have := List.length_filter_le (fun x => !decide (x ∈ r)) (List.range n)
        rw [List.length_range] at this
        omega
    have := key (permsK n k)
    have e : permsK n (k + 1) = pstep n (permsK n k) := rfl
    rw [e, Nat.pow_succ]
    exact Nat.le_trans this (Nat.mul_le_mul_right n ih)
theorem perms_mem {n : Nat} {r : List Nat} : r ∈ permsK n n ↔ IsP r n := by
  rw [permsK_mem]
  constructor
  · rintro ⟨h1, h2, h3⟩
    refine (List.perm_ext_iff_of_nodup h2 List.nodup_range).mpr fun x => ?_
    rw [List.mem_range]
    exact ⟨h3 x, full_of h2 h3 (by omega) x⟩
  · intro h
    exact ⟨h.len, h.nd, fun x hx => h.mem.mp hx⟩
theorem perms_small {n k : Nat} (h : n ≤ 6) (hk : k ≤ n) : (permsK n k).length ≤ 50000 := by
  have h1 := permsK_len n k
  have h2 : n ^ k ≤ 6 ^ k := Nat.pow_le_pow_left h k
  have h3 : 6 ^ k ≤ 6 ^ 6 := Nat.pow_le_pow_right (by omega) (by omega)
  have : (6 : Nat) ^ 6 = 46656 := by decide
  omega
/-! ### unrest -/
section
variable (one two : List (List Nat)) (n : Nat) (N : List Nat)
def unrI (i : Nat) : Option Nat := ((one.getD i []).take (rk one i (N.getD i 0))).find? fun k => decide (rk two k i < rk two k (N.idxOf k))
def unr : Option (Nat × Nat) := (List.range n).findSome? fun i => (unrI one two N i).map fun k => (i, k)
end
section
variable {one two : List (List Nat)} {n : Nat} {N : List Nat}
theorem unr_none (sd : Sides one two n) (hN : IsP N n) : unr one two n N = none ↔ Stable one two n N := by
  unfold unr
  rw [List.findSome?_eq_none_iff]
  constructor
  · intro h i k hi hk ⟨b1, b2⟩
    have := h i (List.mem_range.mpr hi)
    rw [Option.map_eq_none_iff] at this
    unfold unrI at this
    rw [List.find?_eq_none] at this
    have hk2 := (sd.r1 hi).mem.mpr hk
    have hl := (sd.r1 hi).len
    have hx := (sd.r1 hi).idx_lt hk
    refine this k ?_ (decide_eq_true b2)
    rw [List.mem_take_iff_getElem]
    have b1 : (one.getD i []).idxOf k < rk one i (N.getD i 0) := b1
    exact ⟨(one.getD i []).idxOf k, by omega, List.getElem_idxOf (by omega)⟩
  · intro h i hi
    have hi := List.mem_range.mp hi
    rw [Option.map_eq_none_iff]
    unfold unrI
    rw [List.find?_eq_none]
    intro k hk z
    have z := of_decide_eq_true z
    obtain ⟨j, hj, rfl⟩ := List.mem_take_iff_getElem.mp hk
    have hl := (sd.r1 hi).len
    have hjn : j < n := by omega
    have ej : (one.getD i [])[j]'(by omega) = (one.getD i []).getD j 0 := (getD_el (by omega)).symm
    rw [ej] at z
    refine h i ((one.getD i []).getD j 0) hi ((sd.r1 hi).get_lt hjn) ⟨?_, z⟩
    have := (sd.r1 hi).idx_get hjn
    show (one.getD i []).idxOf ((one.getD i []).getD j 0) < _
    rw [this]
    omega
end
/-! ### rests -/
def restsL (one two : List (List Nat)) (n : Nat) : List (List Nat) := (permsK n n).filter fun N => decide (unr one two n N = none)
section
variable {one two : List (List Nat)} {n : Nat}
theorem rests_mem (sd : Sides one two n) {N : List Nat} : N ∈ restsL one two n ↔ IsP N n ∧ Stable one two n N := by
  unfold restsL
  rw [List.mem_filter, perms_mem, decide_eq_true_eq]
  constructor
  · rintro ⟨h1, h2⟩; exact ⟨h1, (unr_none sd h1).mp h2⟩
  · rintro ⟨h1, h2⟩; exact ⟨h1, (unr_none sd h1).mpr h2⟩
theorem rests_ne (sd : Sides one two n) : restsL one two n ≠ [] := fun e => by
  obtain ⟨N, h1, h2⟩ := rest_ex sd
  have := (rests_mem sd).mpr ⟨h1, h2⟩
  rw [e] at this
  cases this
end
/-! ### couples seen from the other side -/
def invL (n : Nat) (N : List Nat) : List Nat := (List.range n).map fun k => N.idxOf k
section
variable {one two : List (List Nat)} {n : Nat} {N : List Nat}
theorem invL_len : (invL n N).length = n := by simp [invL]
theorem invL_get {k : Nat} (hk : k < n) : (invL n N).getD k 0 = N.idxOf k := by simp [invL, hk]
theorem invL_perm (h : IsP N n) : IsP (invL n N) n := by
  have nd : (invL n N).Nodup := nodup_rangeM fun a b ha hb e => h.idx_inj ha hb e
  refine (List.perm_ext_iff_of_nodup nd List.nodup_range).mpr fun x => ?_
  rw [List.mem_range]
  constructor
  · intro hx
    obtain ⟨k, hk, rfl⟩ := List.mem_map.mp hx
    exact h.idx_lt (List.mem_range.mp hk)
  · intro hx
    exact List.mem_map.mpr ⟨N.getD x 0, List.mem_range.mpr (h.get_lt hx), h.idx_get hx⟩
theorem invL_idx (h : IsP N n) {i : Nat} (hi : i < n) : (invL n N).idxOf i = N.getD i 0 := by
  have e : (invL n N).getD (N.getD i 0) 0 = i := by rw [invL_get (h.get_lt hi)]; exact h.idx_get hi
  have := (invL_perm h).idx_get (h.get_lt hi)
  rw [e] at this
  exact this
theorem invL_stable (h : IsP N n) (st : Stable two one n N) : Stable one two n (invL n N) := fun i k hi hk ⟨b1, b2⟩ => by
  rw [invL_get hi] at b1
  rw [invL_idx h hk] at b2
  exact st k i hk hi ⟨b2, b1⟩
theorem second_facts (sd : Sides one two n) {t : GS} (v : Inv two one n t) (e : t.fr = []) {N : List Nat} (hN : IsP N n) (st : Stable one two n N) {i : Nat} (hi : i < n) :
    rk one i (N.getD i 0) ≤ rk one i ((invL n (t.out n)).getD i 0) ∧ rk two i ((invL n (t.out n)).idxOf i) ≤ rk two i (N.idxOf i) := by
  have hO := out_perm v e
  have hI := invL_perm hN
  have sI := invL_stable (one := two) (two := one) hN st
  constructor
  · have := out_worst sd.swap v e hI sI hi
    rw [invL_idx hN hi] at this
    rw [invL_get hi]
    exact this
  · have := out_best sd.swap v e hI sI hi
    rw [invL_get hi] at this
    rw [invL_idx hO hi]
    exact this
end
/-! ### better and worse of two couples in rest -/
def betL (one : List (List Nat)) (n : Nat) (A B : List Nat) : List Nat := (List.range n).map fun i => if rk one i (A.getD i 0) ≤ rk one i (B.getD i 0) then A.getD i 0 else B.getD i 0
def worL (one : List (List Nat)) (n : Nat) (A B : List Nat) : List Nat := (List.range n).map fun i => if rk one i (A.getD i 0) ≤ rk one i (B.getD i 0) then B.getD i 0 else A.getD i 0
section
variable {one two : List (List Nat)} {n : Nat} {A B : List Nat}
theorem betL_get {i : Nat} (hi : i < n) : (betL one n A B).getD i 0 = if rk one i (A.getD i 0) ≤ rk one i (B.getD i 0) then A.getD i 0 else B.getD i 0 := by simp [betL, hi]
theorem worL_get {i : Nat} (hi : i < n) : (worL one n A B).getD i 0 = if rk one i (A.getD i 0) ≤ rk one i (B.getD i 0) then B.getD i 0 else A.getD i 0 := by simp [worL, hi]
theorem betL_len : (betL one n A B).length = n := by simp [betL]
theorem worL_len : (worL one n A B).length = n := by simp [worL]
theorem bet_rk {i : Nat} (hi : i < n) : rk one i ((betL one n A B).getD i 0) = min (rk one i (A.getD i 0)) (rk one i (B.getD i 0)) := by
  rw [betL_get hi]
  split <;> omega
theorem wor_rk {i : Nat} (hi : i < n) : rk one i ((worL one n A B).getD i 0) = max (rk one i (A.getD i 0)) (rk one i (B.getD i 0)) := by
  rw [worL_get hi]
  split <;> omega
theorem perm_of_inj {l : List Nat} (hl : l.length = n) (lt : ∀ i, i < n → l.getD i 0 < n) (inj : ∀ i j, i < n → j < n → l.getD i 0 = l.getD j 0 → i = j) : IsP l n := by
  have el : l = (List.range n).map fun i => l.getD i 0 := by
    apply List.ext_getElem
    · simp [hl]
    · intro i h1 h2
      simp only [List.getElem_map, List.getElem_range, getD_el h1]
  have nd : l.Nodup := by
    rw [el]
    exact nodup_rangeM fun a b ha hb e => inj a b ha hb e
  have ltm : ∀ x ∈ l, x < n := fun x hx => by
    obtain ⟨i, hi, rfl⟩ := List.getElem_of_mem hx
    have := lt i (by omega)
    rwa [getD_el hi] at this
  refine (List.perm_ext_iff_of_nodup nd List.nodup_range).mpr fun x => ?_
  rw [List.mem_range]
  exact ⟨ltm x, full_of nd ltm (by omega) x⟩
/-- one takes k of A, another one k of B, each for the better: no -/
theorem bet_clash (sd : Sides one two n) (hA : IsP A n) (hB : IsP B n) (sA : Stable one two n A) (sB : Stable one two n B) {i j k : Nat} (hi : i < n) (hj : j < n) (hk : k < n) (ij : i ≠ j) (e1 : A.getD i 0 = k) (e2 : B.getD j 0 = k)
    (h1 : rk one i k ≤ rk one i (B.getD i 0)) (h2 : rk one j k ≤ rk one j (A.getD j 0)) : False := by
  have iA : A.idxOf k = i := by rw [← e1]; exact hA.idx_get hi
  have iB : B.idxOf k = j := by rw [← e2]; exact hB.idx_get hj
  have nB : B.getD i 0 ≠ k := fun z => ij (by rw [← iB, ← z]; exact (hB.idx_get hi).symm)
  have nA : A.getD j 0 ≠ k := fun z => ij (by rw [← iA, ← z]; exact hA.idx_get hj)
  have s1 : rk one i k < rk one i (B.getD i 0) := by
    have : rk one i k ≠ rk one i (B.getD i 0) := fun z => nB ((sd.r1 hi).idx_inj hk (hB.get_lt hi) z).symm
    omega
  have s2 : rk one j k < rk one j (A.getD j 0) := by
    have : rk one j k ≠ rk one j (A.getD j 0) := fun z => nA ((sd.r1 hj).idx_inj hk (hA.get_lt hj) z).symm
    omega
  have b1 := sB i k hi hk
  have b2 := sA j k hj hk
  unfold Blocks at b1 b2
  rw [iB] at b1
  rw [iA] at b2
  have d : rk two k i ≠ rk two k j := fun z => ij ((sd.r2 hk).idx_inj hi hj z)
  omega
theorem bet_perm (sd : Sides one two n) (hA : IsP A n) (hB : IsP B n) (sA : Stable one two n A) (sB : Stable one two n B) : IsP (betL one n A B) n := by
  refine perm_of_inj betL_len (fun i hi => ?_) fun i j hi hj e => ?_
  · rw [betL_get hi]
    have := hA.get_lt hi
    have := hB.get_lt hi
    split <;> assumption
  · apply Classical.byContradiction
    intro ij
    rw [betL_get hi, betL_get hj] at e
    split at e
    · rename_i c1
      split at e
      · have a := hA.idx_get hi
        have b := hA.idx_get hj
        rw [e] at a
        exact ij (a.symm.trans b)
      · rename_i c2
        refine bet_clash sd hA hB sA sB hi hj (hA.get_lt hi) ij rfl e.symm c1 ?_
        rw [e]
        omega
    · rename_i c1
      split at e
      · rename_i c2
        refine bet_clash sd hA hB sA sB hj hi (hB.get_lt hi) (Ne.symm ij) e.symm rfl ?_ ?_
        · rw [e]; exact c2
        · omega
      · have a := hB.idx_get hi
        have b := hB.idx_get hj
        rw [e] at a
        exact ij (a.symm.trans b)
theorem bet_stable (sd : Sides one two n) (hA : IsP A n) (hB : IsP B n) (sA : Stable one two n A) (sB : Stable one two n B) : Stable one two n (betL one n A B) := fun i k hi hk ⟨b1, b2⟩ => by
  have hP := bet_perm sd hA hB sA sB
  rw [bet_rk hi] at b1
  have hj := hP.idx_lt hk
  have ek := hP.get_idx hk
  rw [betL_get hj] at ek
  generalize (betL one n A B).idxOf k = j at *
  split at ek
  · refine sA i k hi hk ⟨by omega, ?_⟩
    rw [← ek, hA.idx_get hj, ek]
    exact b2
  · refine sB i k hi hk ⟨by omega, ?_⟩
    rw [← ek, hB.idx_get hj, ek]
    exact b2
/-- the worse ones are what the other side takes for the better -/
theorem wor_back (sd : Sides one two n) (hA : IsP A n) (hB : IsP B n) (sA : Stable one two n A) (sB : Stable one two n B) {k : Nat} (hk : k < n) : (worL one n A B).getD ((betL two n (invL n A) (invL n B)).getD k 0) 0 = k := by
  rw [betL_get hk, invL_get hk, invL_get hk]
  split
  · rename_i c
    have hi := hA.idx_lt hk
    have eA := hA.get_idx hk
    rw [worL_get hi, eA]
    split
    · rename_i c2
      apply Classical.byContradiction
      intro ne
      refine sB (A.idxOf k) k hi hk ⟨?_, ?_⟩
      · have : rk one (A.idxOf k) k ≠ rk one (A.idxOf k) (B.getD (A.idxOf k) 0) := fun z => ne ((sd.r1 hi).idx_inj hk (hB.get_lt hi) z).symm
        omega
      · have : rk two k (A.idxOf k) ≠ rk two k (B.idxOf k) := fun z => ne (by rw [(sd.r2 hk).idx_inj hi (hB.idx_lt hk) z]; exact hB.get_idx hk)
        omega
    · rfl
  · rename_i c
    have hi := hB.idx_lt hk
    have eB := hB.get_idx hk
    rw [worL_get hi, eB]
    split
    · rfl
    · rename_i c2
      apply Classical.byContradiction
      intro ne
      refine sA (B.idxOf k) k hi hk ⟨by omega, by omega⟩
theorem bet_two (sd : Sides one two n) (hA : IsP A n) (hB : IsP B n) (sA : Stable one two n A) (sB : Stable one two n B) : IsP (betL two n (invL n A) (invL n B)) n :=
  bet_perm sd.swap (invL_perm hA) (invL_perm hB) (invL_stable (one := two) (two := one) hA sA) (invL_stable (one := two) (two := one) hB sB)
theorem wor_inv (sd : Sides one two n) (hA : IsP A n) (hB : IsP B n) (sA : Stable one two n A) (sB : Stable one two n B) : worL one n A B = invL n (betL two n (invL n A) (invL n B)) := by
  have hC := bet_two sd hA hB sA sB
  apply List.ext_getElem
  · rw [worL_len, invL_len]
  · intro i h1 h2
    have hi : i < n := by rw [worL_len] at h1; exact h1
    rw [← getD_el (d := 0) h1, ← getD_el (d := 0) h2, invL_get hi]
    have hk := hC.idx_lt hi
    have := wor_back sd hA hB sA sB hk
    rw [hC.get_idx hi] at this
    exact this
theorem wor_perm (sd : Sides one two n) (hA : IsP A n) (hB : IsP B n) (sA : Stable one two n A) (sB : Stable one two n B) : IsP (worL one n A B) n := by
  rw [wor_inv sd hA hB sA sB]
  exact invL_perm (bet_two sd hA hB sA sB)
theorem wor_stable (sd : Sides one two n) (hA : IsP A n) (hB : IsP B n) (sA : Stable one two n A) (sB : Stable one two n B) : Stable one two n (worL one n A B) := by
  rw [wor_inv sd hA hB sA sB]
  exact invL_stable (bet_two sd hA hB sA sB) (bet_stable sd.swap (invL_perm hA) (invL_perm hB) (invL_stable (one := two) (two := one) hA sA) (invL_stable (one := two) (two := one) hB sB))
/-! ### sorted by places -/
def insN (x : Nat) : List Nat → List Nat
  | [] => [x]
  | y :: l => min x y :: insN (max x y) l
def srtN : List Nat → List Nat
  | [] => []
  | x :: l => insN x (srtN l)
theorem insN_perm : ∀ (x : Nat) (l : List Nat), (insN x l).Perm (x :: l)
  | x, [] => List.Perm.refl _
  | x, y :: l => by
    have ih := insN_perm (max x y) l
    show (min x y :: insN (max x y) l).Perm (x :: y :: l)
    refine (ih.cons _).trans ?_
    by_cases h : x ≤ y
    · rw [Nat.min_eq_left h, Nat.max_eq_right h]
    · rw [Nat.min_eq_right (by omega), Nat.max_eq_left (by omega)]
      exact List.Perm.swap _ _ _
theorem srtN_perm : ∀ l : List Nat, (srtN l).Perm l
  | [] => List.Perm.refl _
  | x :: l => (insN_perm x (srtN l)).trans ((srtN_perm l).cons x)
theorem insN_sorted : ∀ (x : Nat) (l : List Nat), l.Pairwise (· ≤ ·) → (insN x l).Pairwise (· ≤ ·)
  | x, [], _ => List.pairwise_singleton _ _
  | x, y :: l, h => by
    obtain ⟨h1, h2⟩ := List.pairwise_cons.mp h
    refine List.pairwise_cons.mpr ⟨fun z hz => ?_, insN_sorted _ l h2⟩
    rcases List.mem_cons.mp ((insN_perm _ l).mem_iff.mp hz) with e | hz
    · omega
    · have := h1 z hz
      omega
theorem srtN_sorted : ∀ l : List Nat, (srtN l).Pairwise (· ≤ ·)
  | [] => List.Pairwise.nil
  | x :: l => insN_sorted x _ (srtN_sorted l)
/-- couples in rest, sorted for each one at once -/
def insM (one : List (List Nat)) (n : Nat) (X : List Nat) : List (List Nat) → List (List Nat)
  | [] => [X]
  | Y :: L => betL one n X Y :: insM one n (worL one n X Y) L
def srtM (one : List (List Nat)) (n : Nat) : List (List Nat) → List (List Nat)
  | [] => []
  | X :: L => insM one n X (srtM one n L)
def Rest (one two : List (List Nat)) (n : Nat) (X : List Nat) : Prop := IsP X n ∧ Stable one two n X
theorem insM_rest (sd : Sides one two n) : ∀ {X : List Nat} {L : List (List Nat)}, Rest one two n X → (∀ Y ∈ L, Rest one two n Y) → ∀ Y ∈ insM one n X L, Rest one two n Y
  | X, [], hX, _, Y, hY => by rw [List.mem_singleton.mp hY]; exact hX
  | X, Z :: L, hX, hL, Y, hY => by
    obtain ⟨z1, z2⟩ := hL Z List.mem_cons_self
    rcases List.mem_cons.mp hY with e | hY
    · rw [e]; exact ⟨bet_perm sd hX.1 z1 hX.2 z2, bet_stable sd hX.1 z1 hX.2 z2⟩
    · exact insM_rest sd ⟨wor_perm sd hX.1 z1 hX.2 z2, wor_stable sd hX.1 z1 hX.2 z2⟩ (fun Y hY => hL Y (List.mem_cons_of_mem _ hY)) Y hY
theorem srtM_rest (sd : Sides one two n) : ∀ {L : List (List Nat)}, (∀ Y ∈ L, Rest one two n Y) → ∀ Y ∈ srtM one n L, Rest one two n Y
  | [], _, Y, hY => by cases hY
  | X :: L, h, Y, hY => insM_rest sd (h X List.mem_cons_self) (srtM_rest sd fun Y hY => h Y (List.mem_cons_of_mem _ hY)) Y hY
theorem insM_rk {i : Nat} (hi : i < n) : ∀ (X : List Nat) (L : List (List Nat)), (insM one n X L).map (fun Y => rk one i (Y.getD i 0)) = insN (rk one i (X.getD i 0)) (L.map fun Y => rk one i (Y.getD i 0))
  | X, [] => rfl
  | X, Z :: L => by
    have ih := insM_rk hi (worL one n X Z) L
    show rk one i ((betL one n X Z).getD i 0) :: (insM one n (worL one n X Z) L).map _ = min _ _ :: insN (max _ _) _
    rw [ih, bet_rk hi, wor_rk hi]
theorem srtM_rk {i : Nat} (hi : i < n) : ∀ (L : List (List Nat)), (srtM one n L).map (fun Y => rk one i (Y.getD i 0)) = srtN (L.map fun Y => rk one i (Y.getD i 0))
  | [] => rfl
  | X :: L => by
    show (insM one n X (srtM one n L)).map _ = insN _ (srtN _)
    rw [insM_rk hi, srtM_rk hi L]
/-- what the k-th ones of all are -/
def midL (one : List (List Nat)) (n : Nat) (rs : List (List Nat)) (k : Nat) : List Nat := (List.range n).map fun i => pf one i ((srtN (rs.map fun Y => rk one i (Y.getD i 0))).getD k 0)
theorem midL_rest (sd : Sides one two n) {rs : List (List Nat)} (h : ∀ Y ∈ rs, Rest one two n Y) {k : Nat} (hk : k < rs.length) : ∃ T, Rest one two n T ∧ midL one n rs k = T := by
  have hl : (srtM one n rs).length = rs.length := by
    have h1 := congrArg List.length (srtM_rk (one := one) (n := n) (i := 0) (by have := sd.n1; omega) rs)
    rw [List.length_map, (srtN_perm _).length_eq, List.length_map] at h1
    exact h1
  refine ⟨(srtM one n rs)[k]'(by omega), srtM_rest sd h _ (List.getElem_mem _), ?_⟩
  have hT := srtM_rest sd h ((srtM one n rs)[k]'(by omega)) (List.getElem_mem _)
  generalize hTe : (srtM one n rs)[k]'(by omega) = T at *
  apply List.ext_getElem
  · simp [midL, hT.1.len]
  · intro i h1 h2
    have hi : i < n := by simpa [midL] using h1
    have e := srtM_rk (one := one) (n := n) hi rs
    have ek : (srtN (rs.map fun Y => rk one i (Y.getD i 0))).getD k 0 = rk one i (T.getD i 0) := by
      rw [← e, getD_el (by rw [List.length_map]; omega), List.getElem_map, hTe]
    have : (midL one n rs k)[i] = pf one i ((srtN (rs.map fun Y => rk one i (Y.getD i 0))).getD k 0) := by simp [midL]
    rw [this, ek]
    have := (sd.r1 hi).get_idx (hT.1.get_lt hi)
    rw [show pf one i (rk one i (T.getD i 0)) = T.getD i 0 from this, getD_el h2]
theorem sorted_get {l : List Nat} (h : l.Pairwise (· ≤ ·)) {i j : Nat} (hij : i ≤ j) (hj : j < l.length) : l.getD i 0 ≤ l.getD j 0 := by
  rw [getD_el (by omega), getD_el hj]
  by_cases e : i = j
  · subst e; exact Nat.le_refl _
  · exact List.pairwise_iff_getElem.mp h i j (by omega) hj (by omega)
theorem mid_first (sd : Sides one two n) {rs : List (List Nat)} {F : List Nat} (hF : F ∈ rs) (pF : IsP F n) (best : ∀ N ∈ rs, ∀ i, i < n → rk one i (F.getD i 0) ≤ rk one i (N.getD i 0)) : midL one n rs 0 = F := by
  apply List.ext_getElem
  · simp [midL, pF.len]
  · intro i h1 h2
    have hi : i < n := by simpa [midL] using h1
    have hp := srtN_perm (rs.map fun Y => rk one i (Y.getD i 0))
    have hs := srtN_sorted (rs.map fun Y => rk one i (Y.getD i 0))
    have hm : rk one i (F.getD i 0) ∈ srtN (rs.map fun Y => rk one i (Y.getD i 0)) := hp.mem_iff.mpr (List.mem_map.mpr ⟨F, hF, rfl⟩)
    obtain ⟨j, hj, ej⟩ := List.getElem_of_mem hm
    have h0 : (srtN (rs.map fun Y => rk one i (Y.getD i 0))).getD 0 0 ≤ rk one i (F.getD i 0) := by
      rw [← ej, ← getD_el (d := 0) hj]
      exact sorted_get hs (by omega) hj
    have hz : (srtN (rs.map fun Y => rk one i (Y.getD i 0))).getD 0 0 ∈ rs.map fun Y => rk one i (Y.getD i 0) := by
      rw [← hp.mem_iff, getD_el (by omega)]
      exact List.getElem_mem _
    obtain ⟨N, hN, eN⟩ := List.mem_map.mp hz
    have := best N hN i hi
    have e0 : (srtN (rs.map fun Y => rk one i (Y.getD i 0))).getD 0 0 = rk one i (F.getD i 0) := by omega
    have : (midL one n rs 0)[i] = pf one i ((srtN (rs.map fun Y => rk one i (Y.getD i 0))).getD 0 0) := by simp [midL]
    rw [this, e0]
    exact ((sd.r1 hi).get_idx (pF.get_lt hi)).trans (getD_el h2)
theorem mid_last (sd : Sides one two n) {rs : List (List Nat)} {F : List Nat} (hF : F ∈ rs) (pF : IsP F n) (worst : ∀ N ∈ rs, ∀ i, i < n → rk one i (N.getD i 0) ≤ rk one i (F.getD i 0)) : midL one n rs (rs.length - 1) = F := by
  apply List.ext_getElem
  · simp [midL, pF.len]
  · intro i h1 h2
    have hi : i < n := by simpa [midL] using h1
    have hp := srtN_perm (rs.map fun Y => rk one i (Y.getD i 0))
    have hs := srtN_sorted (rs.map fun Y => rk one i (Y.getD i 0))
    have hl : (srtN (rs.map fun Y => rk one i (Y.getD i 0))).length = rs.length := by rw [hp.length_eq, List.length_map]
    have hm : rk one i (F.getD i 0) ∈ srtN (rs.map fun Y => rk one i (Y.getD i 0)) := hp.mem_iff.mpr (List.mem_map.mpr ⟨F, hF, rfl⟩)
    obtain ⟨j, hj, ej⟩ := List.getElem_of_mem hm
    have h0 : rk one i (F.getD i 0) ≤ (srtN (rs.map fun Y => rk one i (Y.getD i 0))).getD (rs.length - 1) 0 := by
      rw [← ej, ← getD_el (d := 0) hj]
      exact sorted_get hs (by omega) (by omega)
    have hz : (srtN (rs.map fun Y => rk one i (Y.getD i 0))).getD (rs.length - 1) 0 ∈ rs.map fun Y => rk one i (Y.getD i 0) := by
      rw [← hp.mem_iff, getD_el (by omega)]
      exact List.getElem_mem _
    obtain ⟨N, hN, eN⟩ := List.mem_map.mp hz
    have := worst N hN i hi
    have e0 : (srtN (rs.map fun Y => rk one i (Y.getD i 0))).getD (rs.length - 1) 0 = rk one i (F.getD i 0) := by omega
    have : (midL one n rs (rs.length - 1))[i] = pf one i ((srtN (rs.map fun Y => rk one i (Y.getD i 0))).getD (rs.length - 1) 0) := by simp [midL]
    rw [this, e0]
    exact ((sd.r1 hi).get_idx (pF.get_lt hi)).trans (getD_el h2)
end
end Q

set_option Elab.async false
set_option linter.all false
set_option maxRecDepth 100000
set_option maxHeartbeats 4000000
set_option exponentiation.threshold 1000
/-! Checks, all orders, courting. -/
namespace Q
open PySem PySem.Spec PyProof.Rows L2
theorem whole_eq {v : PyData} (h : noDict v = true) : outR (d_is_whole (startE 1 [.fz v])) = .ret (.fz (.bool (isWh v))) := by
  cases v <;> first | rfl | (unfold noDict at h; cases h)
theorem yq_whole {v : PyData} {f : Ev → Res} {env : Ev} (hd : noDict v = true) (h : YQ f env (.own (.fz v))) : YQ (dCall 1 d_is_whole [f]) env (.own (.fz (.bool (isWh v)))) :=
  yq_call (y1 h) rfl rfl (whole_eq hd) (fun z => by cases z)
theorem ord_a {v : PyData} (hv : noDict v = true) (h : isTup v = false) {n : Nat} : outR (d_is_order (startE 3 [.fz v, .fz (.int (n : Nat))])) = .ret (.fz (.bool false)) := by
  have e0 : startE 3 [.fz v, .fz (.int (n : Nat))] = [some (.fz v), nM n, none] := rfl
  rw [e0]
  unfold d_is_order
  rw [og (yq_orT (b := false) (yq_not (yq_tru (yq_isi (yq_pk (i := 0) (d := v) rfl) (isi_tup hv)) rfl)) fun z => by rw [h] at z; cases z)]
  rw [h]
  rfl
theorem ord_t {ds : List PyData} (hv : noDict (.tuple ds) = true) {n : Nat} {c : Bool} (hc : ds.length = n → ds.all isWh = true → YQ (dG (kPl oEq) [dG (kSortA) [dPk 0], dG kLRng [dPk 1]]) [some (.fz (.tuple ds)), nM n, none] (.own (.fz (.bool c)))) : outR (d_is_order (startE 3 [.fz (.tuple ds), .fz (.int (n : Nat))])) = .ret (.fz (.bool (decide (ds.length = n) && (ds.all isWh && c)))) := by
  have hds := noDict_in hv
  have e0 : startE 3 [.fz (.tuple ds), .fz (.int (n : Nat))] = [some (.fz (.tuple ds)), nM n, none] := rfl
  rw [e0]
  unfold d_is_order
  have al := yq_all (p := gNm 2) (src := dIt (dTk 0)) (f := dCall 1 d_is_whole [dPk 2]) (vs := [2]) (env := [some (.fz (.tuple ds)), nM n, none]) [some (.fz (.tuple ds)), nM n, none] isWh (yq_it (m := .fz (.tuple ds)) (yq_tk (i := 0) rfl) rfl rfl) (fun d hd => ⟨[some (.fz (.tuple ds)), nM n, some (.fz d)], rfl, yq_whole (hds d hd) (yq_pk (i := 2) rfl), rfl⟩) rfl rfl rfl
  have t := yq_orT (yq_not (yq_tru (c := true) (yq_isi (t := .tuple) (yq_pk (i := 0) (d := .tuple ds) (env := [some (.fz (.tuple ds)), nM n, none]) rfl) rfl) rfl)) fun _ => yq_orT (yq_neN (yq_len (n := ds.length) (yq_pk (i := 0) (d := .tuple ds) rfl) rfl) (yq_pk (i := 1) rfl) rfl) fun _ => yq_not (yq_tru al rfl)
  rw [og t]
  by_cases hl : ds.length = n
  · cases ha : ds.all isWh with
    | false => simp [hl, ha]
    | true =>
      have := hc hl ha
      rw [if_neg (by simp [hl, ha])]
      refine Eq.trans (oret this) ?_
      simp [hl]
  · simp [hl]
theorem ord_ints {ns : List Int} {n : Nat} (hn : n ≤ 1000) : outR (d_is_order (startE 3 [.fz (.tuple (ns.map .int)), .fz (.int (n : Nat))])) = .ret (.fz (.bool (decide (ns.length = n) && decide (sortI ns = up (List.range n))))) := by
  have al : (ns.map PyData.int).all isWh = true := by
    rw [List.all_eq_true]
    intro x hx
    obtain ⟨i, _, rfl⟩ := List.mem_map.mp hx
    rfl
  refine Eq.trans (ord_t (c := decide (sortI ns = up (List.range n))) (ints_nd ns) fun _ _ => ?_) ?_
  · refine yq_G (b := false) (ys_cons (yq_G (b := true) (ys_cons (yq_pk (i := 0) rfl) ys_nil) ksortA_T) (ys_cons (yq_G (b := true) (ys_cons (yq_pk (i := 1) rfl) ys_nil) (klrng hn)) ys_nil)) ?_
    have e : valDs [.own (.lst ((sortI ns).map fun n => .fz (.int n))), .own (.lst ((rngD 0 n).map .fz))] = some [.list ((sortI ns).map .int), .list ((up (List.range n)).map .int)] := by
      have e1 : (sortI ns).map (fun n => M.fz (.int n)) = ((sortI ns).map PyData.int).map M.fz := by rw [List.map_map]; rfl
      have e2 : rngD 0 n = (up (List.range n)).map PyData.int := by rw [rngD_ints]; unfold up; rw [List.map_map]; rfl
      rw [e1, e2]
      simp only [valDs, valD, frz_lst, Option.bind_some, Option.map_some]
    have ok : eqOk (.list ((sortI ns).map .int)) (.list ((up (List.range n)).map .int)) = true := eqOk_sh (ints_shL _) (ints_shL _) (by decide)
    simp only [kPl, e, Option.bind_some, oEq, ok, if_true, Option.map_some, eqv_ints]
  · rw [al, List.length_map, Bool.true_and]
theorem ord_yes {ord : List Nat} {n : Nat} (hn : n ≤ 1000) (h : ord.Perm (List.range n)) : outR (d_is_order (startE 3 [.fz (.tuple (natsD ord)), .fz (.int (n : Nat))])) = .ret (.fz (.bool true)) := by
  rw [natsD_ints]
  refine (ord_ints hn).trans ?_
  have e : sortI (up ord) = up (List.range n) := by
    refine srt_uniq leI_anti ((srtB_perm leI _).trans (h.map _)) (srtB_srt leI_tot leI_tr _) ?_
    unfold up
    rw [List.pairwise_map]
    refine List.pairwise_lt_range.imp fun hab => ?_
    unfold leI
    exact decide_eq_true (by omega)
  have l : (ord.map fun x : Nat => (x : Int)).length = n := by rw [List.length_map, h.length_eq, List.length_range]
  show OutR.ret (.fz (.bool (decide ((up ord).length = n) && decide (sortI (up ord) = up (List.range n))))) = _
  rw [e, show (up ord).length = n from l]
  simp
theorem ord_no {ns : List Int} {n : Nat} (hn : n ≤ 1000) (h : ns.length = n → ∃ x ∈ ns, x < 0 ∨ (n : Int) ≤ x) : outR (d_is_order (startE 3 [.fz (.tuple (ns.map .int)), .fz (.int (n : Nat))])) = .ret (.fz (.bool false)) := by
  refine (ord_ints hn).trans ?_
  by_cases hl : ns.length = n
  · obtain ⟨x, hx, hb⟩ := h hl
    have : ¬ sortI ns = up (List.range n) := fun e => by
      have : x ∈ sortI ns := (srtB_perm leI ns).mem_iff.mpr hx
      rw [e] at this
      obtain ⟨y, hy, rfl⟩ := List.mem_map.mp this
      have := List.mem_range.mp hy
      omega
    rw [decide_eq_false this, Bool.and_false]
  · rw [decide_eq_false hl]; rfl
theorem cut_lo {ds : List PyData} {i : Nat} (h : i ≤ ds.length) : cutD ds (some (i : Int)) none = ds.drop i := by
  unfold cutD
  have e1 : HT.sIx ds.length 0 (some (i : Int)) = i := by
    unfold HT.sIx
    simp
    rw [if_neg (by omega)]
    omega
  have e2 : HT.sIx ds.length ds.length none = ds.length := rfl
  rw [e1, e2, List.take_of_length_le (by simp)]
theorem cut_hi {ds : List PyData} {i : Nat} (h : i ≤ ds.length) : cutD ds none (some (i : Int)) = ds.take i := by
  unfold cutD
  have e1 : HT.sIx ds.length ds.length (some (i : Int)) = i := by
    unfold HT.sIx
    simp
    rw [if_neg (by omega)]
    omega
  have e2 : HT.sIx ds.length 0 none = 0 := rfl
  rw [e1, e2]
  simp
theorem ords_a {v : PyData} (hv : noDict v = true) (h : isTup v = false) : outR (d_is_orders (startE 2 [.fz v])) = .ret (.fz (.bool false)) := by
  have e0 : startE 2 [.fz v] = [some (.fz v), none] := rfl
  rw [e0]
  unfold d_is_orders
  rw [og (yq_orT (b := false) (yq_not (yq_tru (yq_isi (yq_pk (i := 0) (d := v) rfl) (isi_tup hv)) rfl)) fun z => by rw [h] at z; cases z)]
  rw [h]
  rfl
theorem ords_t {ds : List PyData} {b : PyData → Bool} (hb : ∀ d ∈ ds, outR (d_is_order (startE 3 [.fz d, .fz (.int (ds.length : Nat))])) = .ret (.fz (.bool (b d)))) :
    outR (d_is_orders (startE 2 [.fz (.tuple ds)])) = .ret (.fz (.bool (decide (1 ≤ ds.length ∧ ds.length ≤ 6) && ds.all b))) := by
  have e0 : startE 2 [.fz (.tuple ds)] = [some (.fz (.tuple ds)), none] := rfl
  rw [e0]
  unfold d_is_orders
  have t := yq_orT (yq_not (yq_tru (c := true) (yq_isi (t := .tuple) (yq_pk (i := 0) (d := .tuple ds) (env := [some (.fz (.tuple ds)), none]) rfl) rfl) rfl)) fun _ => yq_not (yq_chain (p1 := fun i j => decide (i ≤ j)) (p2 := fun i j => decide (i ≤ j)) (f := dLit (.int 1)) (i := 1) (h := dLit c_MOST_PEOPLE) (k := 6) yq_lit (yq_len (n := ds.length) (yq_pk (i := 0) (d := .tuple ds) rfl) rfl) fun _ => yq_lit)
  rw [og t]
  by_cases h : 1 ≤ ds.length ∧ ds.length ≤ 6
  · rw [if_neg (by simp; omega)]
    exact oretb (yq_all (p := gNm 1) (src := dIt (dTk 0)) (f := dCall 3 d_is_order [dPk 1, dG (kLen) [dPk 0]]) (vs := [1]) [some (.fz (.tuple ds)), none] b (yq_it (m := .fz (.tuple ds)) (yq_tk (i := 0) rfl) rfl rfl) (fun d hd => ⟨[some (.fz (.tuple ds)), some (.fz d)], rfl, yq_call2 (yq_pk (i := 1) rfl) (yq_len (n := ds.length) (yq_pk (i := 0) (d := .tuple ds) rfl) rfl) (hb d hd), rfl⟩) rfl rfl rfl) (by rw [decide_eq_true h]; rfl)
  · rw [if_pos (by simp; omega), decide_eq_false h]
    rfl
section
variable {one two : List (List Nat)} {n : Nat} {A N : List Nat}
theorem gD_len (rows : List (List Nat)) : (rsD rows).length = rows.length := by simp
theorem ords_yes (n1 : 1 ≤ n) (n6 : n ≤ 6) {rows : List (List Nat)} (hl : rows.length = n) (hp : ∀ r ∈ rows, IsP r n) : outR (d_is_orders (startE 2 [.fz (gD rows)])) = .ret (.fz (.bool true)) := by
  have hl2 : (rsD rows).length = n := by rw [gD_len, hl]
  refine (ords_t (ds := rsD rows) (b := fun _ => true) fun d hd => ?_).trans ?_
  · obtain ⟨r, hr, rfl⟩ := List.mem_map.mp hd
    rw [hl2]
    exact ord_yes (by omega) (hp r hr)
  · rw [hl2, decide_eq_true (by omega)]
    simp
theorem ords_cut (n1 : 1 ≤ n) (n6 : n ≤ 6) {rows : List (List Nat)} (hl : rows.length = n) (hp : ∀ r ∈ rows, IsP r n) : outR (d_is_orders (startE 2 [.fz (.tuple ((rsD rows).drop 1))])) = .ret (.fz (.bool false)) := by
  have hl2 : ((rsD rows).drop 1).length = n - 1 := by rw [List.length_drop, gD_len, hl]
  refine (ords_t (b := fun _ => false) fun d hd => ?_).trans ?_
  · obtain ⟨r, hr, rfl⟩ := List.mem_map.mp (List.mem_of_mem_drop hd)
    rw [hl2, natsD_ints]
    have := (hp r hr).len
    exact ord_no (by omega) fun h => by rw [List.length_map] at h; omega
  · rw [hl2]
    by_cases h1 : n = 1
    · subst h1; rfl
    · have : ((rsD rows).drop 1).all (fun _ => false) = false := by
        cases e : (rsD rows).drop 1 with
        | nil => rw [e] at hl2; simp at hl2; omega
        | cons a l => rfl
      rw [this, Bool.and_false]
theorem cs_ok (sd : Sides one two n) : outR (d_check_sides (startE 2 [.fz (gD one), .fz (gD two)])) = .ret (.fz .none) := by
  have e0 : startE 2 [.fz (gD one), .fz (gD two)] = [gM one, gM two] := rfl
  rw [e0]
  unfold d_check_sides
  have t := yq_orT (b := false) (yq_not (c := true) (yq_tru (yq_call1 (yq_pk (i := 0) (env := [gM one, gM two]) rfl) (ords_yes sd.n1 sd.n6 sd.l1 sd.p1)) rfl)) fun _ => yq_orT (b := false) (yq_not (c := true) (yq_tru (yq_call1 (yq_pk (i := 1) rfl) (ords_yes sd.n1 sd.n6 sd.l2 sd.p2)) rfl)) fun _ => yq_neN (yq_lenG (rn := one) (yq_pk (i := 0) rfl)) (yq_lenG (rn := two) (yq_pk (i := 1) rfl)) (by rw [sd.l1, sd.l2]; simp)
  exact (oifF t rfl).trans rfl
theorem cs_x1 {v w : PyData} (h : outR (d_is_orders (startE 2 [.fz v])) = .ret (.fz (.bool false))) : outR (d_check_sides (startE 2 [.fz v, .fz w])) = .exn mal := by
  have e0 : startE 2 [.fz v, .fz w] = [some (.fz v), some (.fz w)] := rfl
  rw [e0]
  unfold d_check_sides
  have t := yq_orT (b := false) (g := dIf (dIf (dTru (dCall 2 d_is_orders [dPk 1])) (dLit (.bool false)) (dLit (.bool true))) (dLit (.bool true)) (dG (kPl oNe) [dG (kLen) [dPk 0], dG (kLen) [dPk 1]])) (yq_not (c := false) (yq_tru (yq_call1 (yq_pk (i := 0) (env := [some (.fz v), some (.fz w)]) rfl) h) rfl)) fun z => by cases z
  exact (oifT t rfl).trans rfl
theorem cs_x2 {v w : PyData} (h0 : outR (d_is_orders (startE 2 [.fz v])) = .ret (.fz (.bool true))) (h : outR (d_is_orders (startE 2 [.fz w])) = .ret (.fz (.bool false))) : outR (d_check_sides (startE 2 [.fz v, .fz w])) = .exn mal := by
  have e0 : startE 2 [.fz v, .fz w] = [some (.fz v), some (.fz w)] := rfl
  rw [e0]
  unfold d_check_sides
  have t := yq_orT (yq_not (c := true) (yq_tru (yq_call1 (yq_pk (i := 0) (env := [some (.fz v), some (.fz w)]) rfl) h0) rfl)) fun _ => yq_orT (b := false) (g := dG (kPl oNe) [dG (kLen) [dPk 0], dG (kLen) [dPk 1]]) (yq_not (c := false) (yq_tru (yq_call1 (yq_pk (i := 1) rfl) h) rfl)) fun z => by cases z
  exact (oifT t rfl).trans rfl
theorem cp_ok (sd : Sides one two n) (hN : IsP N n) : outR (d_check_pairs (startE 3 [.fz (gD one), .fz (gD two), .fz (.tuple (natsD N))])) = .ret (.fz .none) := by
  have e0 : startE 3 [.fz (gD one), .fz (gD two), .fz (.tuple (natsD N))] = [gM one, gM two, tM N] := rfl
  rw [e0]
  unfold d_check_pairs
  refine Eq.trans (oex (yq_call2 (yq_pk (i := 0) rfl) (yq_pk (i := 1) rfl) (cs_ok sd))) ?_
  have n6 := sd.n6
  have t := yq_not (c := true) (yq_tru (yq_call2 (yq_pk (i := 2) (d := .tuple (natsD N)) (env := [gM one, gM two, tM N]) rfl) (yq_lenG (rn := one) (yq_pk (i := 0) rfl)) (by rw [sd.l1]; exact ord_yes (by omega) hN)) rfl)
  exact (oifF t rfl).trans rfl
theorem cp_x1 {v w u : PyData} (h : outR (d_check_sides (startE 2 [.fz v, .fz w])) = .exn mal) : outR (d_check_pairs (startE 3 [.fz v, .fz w, .fz u])) = .exn mal := by
  have e0 : startE 3 [.fz v, .fz w, .fz u] = [some (.fz v), some (.fz w), some (.fz u)] := rfl
  rw [e0]
  unfold d_check_pairs
  exact oexx (xcall (y2 (yq_pk (i := 0) rfl) (yq_pk (i := 1) rfl)) rfl h)
theorem cp_x2 (sd : Sides one two n) {u : PyData} (h : outR (d_is_order (startE 3 [.fz u, .fz (.int (n : Nat))])) = .ret (.fz (.bool false))) : outR (d_check_pairs (startE 3 [.fz (gD one), .fz (gD two), .fz u])) = .exn mal := by
  have e0 : startE 3 [.fz (gD one), .fz (gD two), .fz u] = [gM one, gM two, some (.fz u)] := rfl
  rw [e0]
  unfold d_check_pairs
  refine Eq.trans (oex (yq_call2 (yq_pk (i := 0) rfl) (yq_pk (i := 1) rfl) (cs_ok sd))) ?_
  have t := yq_not (c := false) (yq_tru (yq_call2 (yq_pk (i := 2) (d := u) (env := [gM one, gM two, some (.fz u)]) rfl) (yq_lenG (rn := one) (yq_pk (i := 0) rfl)) (by rw [sd.l1]; exact h)) rfl)
  exact (oifT t rfl).trans rfl
def unI : PyData → Nat
  | .int i => i.toNat
  | _ => 0
theorem nats_app (r : List Nat) (x : Nat) : natsD r ++ [PyData.int (x : Nat)] = natsD (r ++ [x]) := by simp [natsD]
theorem ext_map (n : Nat) (r : List Nat) : ((rngD 0 n).filter fun d1 => !decide (unI d1 ∈ r)).map (fun d1 => (.fz (.tuple (natsD (r ++ [unI d1]))) : M)) = (rsD (((List.range n).filter fun x => !decide (x ∈ r)).map fun x => r ++ [x])).map .fz := by
  rw [rngD_ints, List.filter_map, List.map_map]
  unfold rsD
  rw [List.map_map, List.map_map]
  rfl
theorem step_map (n : Nat) (rs : List (List Nat)) : ((rsD rs).filter fun _ => true).flatMap (fun d => ((rngD 0 n).filter fun d1 => !decide (unI d1 ∈ unN d)).map fun d1 => (.fz (.tuple (natsD (unN d ++ [unI d1]))) : M)) = (rsD (pstep n rs)).map .fz := by
  rw [List.filter_eq_self.mpr fun _ _ => rfl]
  induction rs with
  | nil => rfl
  | cons r rs ih =>
    have e : rsD (r :: rs) = .tuple (natsD r) :: rsD rs := rfl
    have e2 : pstep n (r :: rs) = (((List.range n).filter fun x => !decide (x ∈ r)).map fun x => r ++ [x]) ++ pstep n rs := by unfold pstep; rw [List.flatMap_cons]
    rw [e, List.flatMap_cons, ih, unN_nats, ext_map, e2]
    unfold rsD
    rw [List.map_append, List.map_append]
theorem pstep_len (n : Nat) (rs : List (List Nat)) : (pstep n rs).length ≤ rs.length * n := by
  unfold pstep
  induction rs with
  | nil => simp
  | cons r rs ih =>
    rw [List.flatMap_cons, List.length_append, List.length_cons, Nat.add_mul, List.length_map]
    have := List.length_filter_le (fun x => !decide (x ∈ r)) (List.range n)
    rw [List.length_range] at this
    omega
abbrev rL (rs : List (List Nat)) : Option M := some (.fz (.list (rsD rs)))
theorem turns_eq (n6 : n ≤ 6) : outR (d_turns_of (startE 5 [.fz (.int (n : Nat))])) = .ret (.fz (.list (rsD (permsK n n)))) := by
  have e0 : startE 5 [.fz (.int (n : Nat))] = [nM n, none, none, none, none] := rfl
  rw [e0]
  unfold d_turns_of
  refine Eq.trans (oset (m := .fz (.list (rsD [[]]))) (yq_fr (m := .lst [.fz (.tuple [])]) (yq_Fn (ys_cons (yq_Fn ys_nil rfl) ys_nil) rfl) rfl) (by show 1 < 5; decide)) ?_
  obtain ⟨e2, h1, x2, h2⟩ := runF_ix (p := gNm 2) (b := dSetF 1 (dLc2 (gNm 3) (dIt (dTk 1)) (dLit (.bool true)) (gNm 4) (dG kRng [dPk 0]) (dG (kPl oNin) [dPk 4, dPk 3]) (dG kAdd [dPk 3, dTup [dTk 4]]) [3, 4] [4])) (fun k env => ∃ x2, env = [nM n, rL (permsK n k), x2, none, none]) (ds := rngD 0 n) (k := 0) (env := [nM n, rL [[]], none, none, none]) (fun k d hd env => by
    rintro ⟨x2, rfl⟩
    have hk : k < n := by
      have := (List.getElem?_eq_some_iff.mp hd).1
      rwa [rngD_len] at this
    rw [Nat.zero_add]
    have small := perms_small n6 (k := k + 1) (by omega)
    have lc := yq_lc2 (p := gNm 3) (src := dIt (dTk 1)) (t := dLit (.bool true)) (p1 := gNm 4) (src1 := dG kRng [dPk 0]) (t1 := dG (kPl oNin) [dPk 4, dPk 3]) (f := dG kAdd [dPk 3, dTup [dTk 4]]) (vs := [3, 4]) (vs1 := [4]) (env := [nM n, rL (permsK n k), some (.fz d), none, none]) [nM n, rL (permsK n k), some (.fz d), none, none] (fun _ => true) (fun _ => rngD 0 n) (fun d d1 => !decide (unI d1 ∈ unN d)) (fun d d1 => .fz (.tuple (natsD (unN d ++ [unI d1])))) (yq_it (m := .fz (.list (rsD (permsK n k)))) (yq_tk (i := 1) rfl) rfl rfl) (fun d' hd' => by
      obtain ⟨r, hr, rfl⟩ := List.mem_map.mp hd'
      refine ⟨[nM n, rL (permsK n k), some (.fz d), tM r, none], rfl, yq_lit, fun _ => ⟨yq_rngN (n := n) (yq_pk (i := 0) rfl) (by omega), rfl, fun d1 hd1 => ?_⟩, rfl⟩
      obtain ⟨x, hx, rfl⟩ := rngD_mem hd1
      refine ⟨[nM n, rL (permsK n k), some (.fz d), tM r, nM x], rfl, ?_, fun _ => ?_, rfl⟩
      · rw [unN_nats]
        exact yq_ninT (yq_pk (i := 4) rfl) (yq_pk (i := 3) rfl)
      · rw [unN_nats]
        have hl := ((permsK_mem n k r).mp hr).1
        have z := yq_addT (f := dPk 3) (g := dTup [dTk 4]) (env := [nM n, rL (permsK n k), some (.fz d), tM r, nM x]) (a := natsD r) (b := [.int (x : Nat)]) (yq_pk (i := 3) rfl) (yq_Fn (ys_cons (yq_tk (i := 4) rfl) ys_nil) rfl) (by rw [natsD_len]; unfold SZ; simp; omega)
        rw [nats_app] at z
        exact z) (by rw [step_map, List.length_map, List.length_map]; have := small; show (permsK n (k + 1)).length ≤ SZ; unfold SZ; omega) rfl rfl rfl
    rw [step_map] at lc
    exact ⟨[nM n, rL (permsK n k), some (.fz d), none, none], [nM n, rL (permsK n (k + 1)), some (.fz d), none, none], rfl, .inl (out_set (yq_fr lc (frz_lst _)) (by show 1 < 5; decide)), _, rfl⟩) ⟨none, rfl⟩
  rw [rngD_len, Nat.zero_add] at h2
  subst h2
  refine Eq.trans (congrArg outR (out_seq ((out_for (yq_rngN (n := n) (yq_pk (i := 0) rfl) (by omega))).trans h1))) ?_
  exact oret (yq_tk (i := 1) rfl)
theorem pstep_snoc (n : Nat) (rs : List (List Nat)) (r : List Nat) : pstep n (rs ++ [r]) = pstep n rs ++ (((List.range n).filter fun x => !decide (x ∈ r)).map fun x => r ++ [x]) := by
  unfold pstep
  rw [List.flatMap_append, List.flatMap_cons, List.flatMap_nil, List.append_nil]
theorem take_get {α : Type} {l : List α} {j : Nat} {a : α} (h : l[j]? = some a) : l.take (j + 1) = l.take j ++ [a] := by
  rw [List.take_add_one, h]
  rfl
theorem lperms_eq (n6 : n ≤ 6) : outR (d__law_perms (startE 6 [.fz (.int (n : Nat))])) = .ret (.fz (.list (rsD (permsK n n)))) := by
  have e0 : startE 6 [.fz (.int (n : Nat))] = [nM n, none, none, none, none, none] := rfl
  rw [e0]
  unfold d__law_perms
  refine Eq.trans (oset (m := .fz (.list (rsD [[]]))) (yq_fr (m := .lst [.fz (.tuple [])]) (yq_Fn (ys_cons (yq_Fn ys_nil rfl) ys_nil) rfl) rfl) (by show 1 < 6; decide)) ?_
  obtain ⟨e2, h1, x2, x3, x4, h2⟩ := runF_ix (p := gNm 2) (b := (dSeq (dSet 3 (dFr (dLst [])))
    (dSeq (dFor (gNm 4) (dIt (dTk 1)) (dSet 3 (dFr (dG kAdd [dPk 3, dLc (gNm 5) (dG kRng [dPk 0]) (dG (kPl oNin) [dPk 5, dPk 4]) (dG kAdd [dPk 4, dTup [dTk 5]]) [5]]))))
    (dSet 1 (dTk 3))))) (fun k env => ∃ x2 x3 x4, env = [nM n, rL (permsK n k), x2, x3, x4, none]) (ds := rngD 0 n) (k := 0) (env := [nM n, rL [[]], none, none, none, none]) (fun k d hd env => by
    rintro ⟨x2, x3, x4, rfl⟩
    have hk : k < n := by
      have := (List.getElem?_eq_some_iff.mp hd).1
      rwa [rngD_len] at this
    rw [Nat.zero_add]
    have small := perms_small n6 (k := k) (by omega)
    obtain ⟨e2, g1, y4, g2⟩ := runF_ix (p := gNm 4) (b := (dSet 3 (dFr (dG kAdd [dPk 3, dLc (gNm 5) (dG kRng [dPk 0]) (dG (kPl oNin) [dPk 5, dPk 4]) (dG kAdd [dPk 4, dTup [dTk 5]]) [5]])))) (fun j env => ∃ x4, env = [nM n, rL (permsK n k), some (.fz d), rL (pstep n ((permsK n k).take j)), x4, none]) (ds := rsD (permsK n k)) (k := 0) (env := [nM n, rL (permsK n k), some (.fz d), rL [], x4, none]) (fun j d' hd' env => by
      rintro ⟨x4, rfl⟩
      rw [Nat.zero_add]
      rw [List.getElem?_map] at hd'
      obtain ⟨r, hr, rfl⟩ := Option.map_eq_some_iff.mp hd'
      have hrm := List.mem_of_getElem? hr
      have hl := ((permsK_mem n k r).mp hrm).1
      have lc := yq_lc (p := gNm 5) (src := dG kRng [dPk 0]) (t := dG (kPl oNin) [dPk 5, dPk 4]) (f := dG kAdd [dPk 4, dTup [dTk 5]]) (vs := [5]) (env := [nM n, rL (permsK n k), some (.fz d), rL (pstep n ((permsK n k).take j)), tM r, none]) [nM n, rL (permsK n k), some (.fz d), rL (pstep n ((permsK n k).take j)), tM r, none] (fun d1 => !decide (unI d1 ∈ r)) (fun d1 => .fz (.tuple (natsD (r ++ [unI d1])))) (yq_rngN (n := n) (yq_pk (i := 0) rfl) (by omega)) (fun d1 hd1 => by
        obtain ⟨x, hx, rfl⟩ := rngD_mem hd1
        refine ⟨[nM n, rL (permsK n k), some (.fz d), rL (pstep n ((permsK n k).take j)), tM r, nM x], rfl, yq_ninT (yq_pk (i := 5) rfl) (yq_pk (i := 4) rfl), fun _ => ?_, rfl⟩
        have z := yq_addT (f := dPk 4) (g := dTup [dTk 5]) (env := [nM n, rL (permsK n k), some (.fz d), rL (pstep n ((permsK n k).take j)), tM r, nM x]) (a := natsD r) (b := [.int (x : Nat)]) (yq_pk (i := 4) rfl) (yq_Fn (ys_cons (yq_tk (i := 5) rfl) ys_nil) rfl) (by rw [natsD_len]; unfold SZ; simp; omega)
        rw [nats_app] at z
        exact z) rfl rfl rfl
      rw [ext_map] at lc
      have b1 := pstep_len n ((permsK n k).take j)
      have b2 : ((permsK n k).take j).length * n ≤ 50000 * 6 := Nat.mul_le_mul (by rw [List.length_take]; omega) n6
      have b3 : (((List.range n).filter fun x => !decide (x ∈ r)).map fun x => r ++ [x]).length ≤ n := by
        rw [List.length_map]
        have := List.length_filter_le (fun x => !decide (x ∈ r)) (List.range n)
        rwa [List.length_range] at this
      have ad := yq_addLD (f := dPk 3) (yq_pk (i := 3) (d := .list (rsD (pstep n ((permsK n k).take j)))) (env := [nM n, rL (permsK n k), some (.fz d), rL (pstep n ((permsK n k).take j)), tM r, none]) rfl) lc (by rw [List.length_map, List.length_map]; unfold SZ; omega)
      refine ⟨[nM n, rL (permsK n k), some (.fz d), rL (pstep n ((permsK n k).take j)), tM r, none], [nM n, rL (permsK n k), some (.fz d), rL (pstep n ((permsK n k).take (j + 1))), tM r, none], rfl, .inl ((out_set ad (by show 3 < 6; decide)).trans ?_), _, rfl⟩
      rw [take_get hr, pstep_snoc]
      unfold rL rsD
      rw [List.map_append]
      rfl) ⟨x4, rfl⟩
    rw [List.length_map, Nat.zero_add, List.take_length] at g2
    subst g2
    refine ⟨[nM n, rL (permsK n k), some (.fz d), x3, x4, none], [nM n, rL (permsK n (k + 1)), some (.fz d), rL (permsK n (k + 1)), y4, none], rfl, .inl ?_, _, _, _, rfl⟩
    refine (out_seq (out_set (m := .fz (.list (rsD []))) (yq_fr (m := .lst []) (yq_Fn ys_nil rfl) rfl) (by show 3 < 6; decide))).trans ?_
    refine (out_seq ((out_for (yq_it (m := .fz (.list (rsD (permsK n k)))) (yq_tk (i := 1) rfl) rfl rfl)).trans g1)).trans ?_
    exact out_set (yq_tk (i := 3) rfl) (by show 1 < 6; decide)) ⟨none, none, none, rfl⟩
  rw [rngD_len, Nat.zero_add] at h2
  subst h2
  refine Eq.trans (congrArg outR (out_seq ((out_for (yq_rngN (n := n) (yq_pk (i := 0) rfl) (by omega))).trans h1))) ?_
  exact oret (yq_tk (i := 1) rfl)
def unrD : Option (Nat × Nat) → PyData
  | none => .none
  | some (i, k) => .tuple [.int (i : Nat), .int (k : Nat)]
theorem yq_rk {rows : List (List Nat)} {f fi g : Ev → Res} {env : Ev} {i k : Nat} (h : YQ f env (.own (.fz (gD rows)))) (hi : YQ fi env (.own (.fz (.int (i : Nat))))) (hg : YQ g env (.own (.fz (.int (k : Nat))))) (il : i < rows.length) (hk : k ∈ rows.getD i []) : YQ (dIdx (dIx f fi) g) env (.own (.fz (.int (rk rows i k : Nat)))) := yq_idxT (yq_ix h hi (ix_gD il)) hg hk
theorem find_some {p : Nat → Bool} : ∀ l : List Nat, (natsD l).findSome? (fun d => if p (unI d) = true then some (unI d) else none) = l.find? p
  | [] => rfl
  | a :: l => by
    have ih := find_some (p := p) l
    have e : natsD (a :: l) = .int (a : Nat) :: natsD l := rfl
    rw [e, List.findSome?_cons, List.find?_cons]
    have ea : unI (.int (a : Nat)) = a := rfl
    rw [ea]
    cases p a with
    | true => simp
    | false => simpa using ih
theorem find_rng {A : Type} (F : Nat → Option A) (n : Nat) : (rngD 0 n).findSome? (fun d => F (unI d)) = (List.range n).findSome? F := by
  rw [rngD_ints, List.findSome?_map]
  rfl
theorem lunrest_eq (sd : Sides one two n) (hN : IsP N n) : outR (d__law_unrest (startE 5 [.fz (gD one), .fz (gD two), .fz (.tuple (natsD N))])) = .ret (.fz (unrD (unr one two n N))) := by
  have e0 : startE 5 [.fz (gD one), .fz (gD two), .fz (.tuple (natsD N))] = [gM one, gM two, tM N, none, none] := rfl
  rw [e0]
  unfold d__law_unrest
  have n6 := sd.n6
  have l1 := sd.l1
  have l2 := sd.l2
  obtain ⟨h1, h2⟩ := runF_find (p := gNm 3) (b := (dFor (gNm 4) (dIt (dF Ql.n (kSl1 false) [dIx (dPk 0) (dPk 3), dIdx (dIx (dPk 0) (dPk 3)) (dIx (dPk 2) (dPk 3))])) (dIfS (dG (kPl oLt) [dIdx (dIx (dPk 1) (dPk 4)) (dPk 3), dIdx (dIx (dPk 1) (dPk 4)) (dIdx (dPk 2) (dPk 4))]) (dRet (dTup [dTk 3, dTk 4])) (dNx)))) (fun env => ∃ x3 x4, env = [gM one, gM two, tM N, x3, x4]) (fun a : Nat × Nat => .fz (.tuple [.int (a.1 : Nat), .int (a.2 : Nat)])) (fun d => (unrI one two N (unI d)).map fun k => (unI d, k)) (ds := rngD 0 n) (env := [gM one, gM two, tM N, none, none]) (fun d hd env => by
    rintro ⟨x3, x4, rfl⟩
    obtain ⟨i, hi, rfl⟩ := rngD_mem hd
    have ei : unI (.int (i : Nat)) = i := rfl
    simp only [ei]
    have ri := sd.r1 hi
    have hNi := hN.get_lt hi
    have hrk := ri.idx_lt hNi
    refine ⟨[gM one, gM two, tM N, nM i, x4], rfl, ?_⟩
    have src : YQ (dIt (dF Ql.n (kSl1 false) [dIx (dPk 0) (dPk 3), dIdx (dIx (dPk 0) (dPk 3)) (dIx (dPk 2) (dPk 3))])) [gM one, gM two, tM N, nM i, x4] (.own (.fz (.list (natsD ((one.getD i []).take (rk one i (N.getD i 0))))))) := by
      have rki := yq_rk (rows := one) (i := i) (k := N.getD i 0) (yq_pk (i := 0) (env := [gM one, gM two, tM N, nM i, x4]) rfl) (yq_pk (i := 3) rfl) (yq_ix (yq_pk (i := 2) rfl) (yq_pk (i := 3) rfl) (ix_tupN (l := N) (i := i) (by rw [hN.len]; exact hi))) (by omega) (ri.mem.mpr hNi)
      refine yq_it (m := .fz (.tuple (natsD ((one.getD i []).take (rk one i (N.getD i 0)))))) (yq_Fn (ys_cons (yq_ix (yq_pk (i := 0) rfl) (yq_pk (i := 3) rfl) (ix_gD (by omega))) (ys_cons rki ys_nil)) ?_) rfl rfl
      show some (Val.own (.fz (.tuple (cutD (natsD (one.getD i [])) none (some ((rk one i (N.getD i 0) : Nat) : Int)))))) = _
      rw [cut_hi (by rw [natsD_len, ri.len]; show (one.getD i []).idxOf _ ≤ n; omega)]
      unfold natsD
      rw [List.map_take]
    obtain ⟨g1, g2⟩ := runF_find (p := gNm 4) (b := (dIfS (dG (kPl oLt) [dIdx (dIx (dPk 1) (dPk 4)) (dPk 3), dIdx (dIx (dPk 1) (dPk 4)) (dIdx (dPk 2) (dPk 4))]) (dRet (dTup [dTk 3, dTk 4])) (dNx))) (fun env => ∃ x4, env = [gM one, gM two, tM N, nM i, x4]) (fun k : Nat => .fz (.tuple [.int (i : Nat), .int (k : Nat)])) (fun d => if decide (rk two (unI d) i < rk two (unI d) (N.idxOf (unI d))) = true then some (unI d) else none) (ds := natsD ((one.getD i []).take (rk one i (N.getD i 0)))) (env := [gM one, gM two, tM N, nM i, x4]) (fun d hd env => by
      rintro ⟨x4, rfl⟩
      obtain ⟨k, hk, rfl⟩ := List.mem_map.mp hd
      have hk := ri.mem.mp (List.mem_of_mem_take hk)
      have ek : unI (.int (k : Nat)) = k := rfl
      simp only [ek]
      have r2 := sd.r2 hk
      have hx := hN.idx_lt hk
      have t := yq_ltN (yq_rk (rows := two) (i := k) (k := i) (yq_pk (i := 1) (env := [gM one, gM two, tM N, nM i, nM k]) rfl) (yq_pk (i := 4) rfl) (yq_pk (i := 3) rfl) (by omega) (r2.mem.mpr hi)) (yq_rk (rows := two) (i := k) (k := N.idxOf k) (yq_pk (i := 1) rfl) (yq_pk (i := 4) rfl) (yq_idxT (l := N) (yq_pk (i := 2) rfl) (yq_pk (i := 4) rfl) (hN.mem.mpr hk)) (by omega) (r2.mem.mpr hx)) rfl
      refine ⟨[gM one, gM two, tM N, nM i, nM k], rfl, fun e => ?_, fun a e => ?_⟩
      · by_cases hb : rk two k i < rk two k (N.idxOf k)
        · rw [if_pos (decide_eq_true hb)] at e; cases e
        · rw [decide_eq_false hb] at t
          exact ⟨_, .inl ((out_ifF t rfl).trans rfl), _, rfl⟩
      · by_cases hb : rk two k i < rk two k (N.idxOf k)
        · rw [if_pos (decide_eq_true hb)] at e
          cases e
          rw [decide_eq_true hb] at t
          exact ⟨_, (out_ifT t rfl).trans (dret_of (yq_Fn (ys_cons (yq_tk (i := 3) rfl) (ys_cons (yq_tk (i := 4) rfl) ys_nil)) rfl))⟩
        · rw [if_neg (by rw [decide_eq_false hb]; decide)] at e; cases e) ⟨x4, rfl⟩
    rw [find_some (p := fun k => decide (rk two k i < rk two k (N.idxOf k)))] at g1 g2
    have sf := out_for (p := gNm 4) (b := (dIfS (dG (kPl oLt) [dIdx (dIx (dPk 1) (dPk 4)) (dPk 3), dIdx (dIx (dPk 1) (dPk 4)) (dIdx (dPk 2) (dPk 4))]) (dRet (dTup [dTk 3, dTk 4])) (dNx))) src
    constructor
    · intro e
      obtain ⟨e2, k1, x4', rfl⟩ := g1 (Option.map_eq_none_iff.mp e)
      exact ⟨_, .inl (sf.trans k1), _, _, rfl⟩
    · intro a e
      obtain ⟨k, ek, rfl⟩ := Option.map_eq_some_iff.mp e
      obtain ⟨e2, k1⟩ := g2 k ek
      exact ⟨e2, sf.trans k1⟩) ⟨none, none, rfl⟩
  rw [find_rng (fun i => (unrI one two N i).map fun k => (i, k))] at h1 h2
  have sf := out_for (p := gNm 3) (b := (dFor (gNm 4) (dIt (dF Ql.n (kSl1 false) [dIx (dPk 0) (dPk 3), dIdx (dIx (dPk 0) (dPk 3)) (dIx (dPk 2) (dPk 3))])) (dIfS (dG (kPl oLt) [dIdx (dIx (dPk 1) (dPk 4)) (dPk 3), dIdx (dIx (dPk 1) (dPk 4)) (dIdx (dPk 2) (dPk 4))]) (dRet (dTup [dTk 3, dTk 4])) (dNx)))) (yq_rngN (n := n) (by have z := yq_lenG (rn := one) (f := dPk 0) (env := [gM one, gM two, tM N, none, none]) (yq_pk (i := 0) rfl); rw [l1] at z; exact z) (by omega))
  cases e : unr one two n N with
  | none =>
    obtain ⟨e2, k1, x3, x4, rfl⟩ := h1 e
    refine Eq.trans (congrArg outR (out_seq (sf.trans k1))) ?_
    exact oret yq_lit
  | some a =>
    obtain ⟨e2, k1⟩ := h2 a e
    obtain ⟨i, k⟩ := a
    refine Eq.trans (congrArg outR (out_seq_ret (sf.trans k1))) ?_
    rfl
theorem lrests_eq (sd : Sides one two n) : outR (d__law_rests (startE 3 [.fz (gD one), .fz (gD two)])) = .ret (.fz (.list (rsD (restsL one two n)))) := by
  have e0 : startE 3 [.fz (gD one), .fz (gD two)] = [gM one, gM two, none] := rfl
  rw [e0]
  unfold d__law_rests
  have lc := yq_lc (p := gNm 2) (src := dIt (dCall 6 d__law_perms [dG (kLen) [dPk 0]])) (t := dG (kIs false) [dCall 5 d__law_unrest [dPk 0, dPk 1, dPk 2], dLit .none]) (f := dTk 2) (vs := [2]) (env := [gM one, gM two, none]) [gM one, gM two, none] (fun d => decide (unr one two n (unN d) = none)) M.fz (yq_it (m := .fz (.list (rsD (permsK n n)))) (yq_call1 (yq_lenG (rn := one) (yq_pk (i := 0) rfl)) (by rw [sd.l1]; exact lperms_eq sd.n6)) rfl rfl) (fun d hd => by
    obtain ⟨N, hN, rfl⟩ := List.mem_map.mp hd
    have hN := perms_mem.mp hN
    refine ⟨[gM one, gM two, tM N], rfl, ?_, fun _ => yq_tk (i := 2) rfl, rfl⟩
    refine yq_isNoneD (yq_call3 (yq_pk (i := 0) rfl) (yq_pk (i := 1) rfl) (yq_pk (i := 2) rfl) (lunrest_eq sd hN)) ?_
    rw [unN_nats]
    have key : ∀ o : Option (Nat × Nat), decide (o = none) = isNoD (unrD o) := fun o => by cases o <;> rfl
    exact key _) rfl rfl rfl
  have e : ((rsD (permsK n n)).filter fun d => decide (unr one two n (unN d) = none)).map M.fz = (rsD (restsL one two n)).map .fz := by
    unfold restsL rsD
    rw [List.filter_map]
    congr 2
    apply List.filter_congr
    intro N _
    show decide (unr one two n (unN (.tuple (natsD N))) = none) = _
    rw [unN_nats]
  rw [e] at lc
  exact oret (yq_fr lc (frz_lst _))
end
def gd (O : List (Option Nat)) : List Nat := O.map fun o => o.getD 0
def fD : Option Nat → PyData
  | none => .none
  | some x => .int (x : Nat)
def oD (O : List (Option Nat)) : List PyData := O.map fD
section
variable {O : List (Option Nat)}
theorem oD_len : (oD O).length = O.length := by simp [oD]
theorem oD_ix {g : Nat} (h : g < O.length) : ixV (.vw (.lst ((oD O).map .fz))) (g : Int) = some (.own (.fz (fD (O.getD g none)))) := by
  simp only [ixV, atI, List.length_map, oD_len, ixN_of h, Option.bind_some]
  simp [oD, h, mkVw]
theorem oD_set {g i : Nat} : ((oD O).map M.fz).set g (.fz (.int (i : Nat))) = (oD (O.set g (some i))).map .fz := by
  unfold oD
  rw [List.map_set, List.map_set]
  rfl
theorem yq_isN {f : Ev → Res} {env : Ev} {o : Option Nat} (h : YQ f env (.own (.fz (fD o)))) : YQ (dG (kIs false) [f, dLit .none]) env (.own (.fz (.bool (decide (o = none))))) := yq_G (b := false) (ys_cons h (ys_cons yq_lit ys_nil)) (by
  cases o with
  | none => rfl
  | some x => rfl)
theorem oD_all : ∀ {O : List (Option Nat)}, (∀ o ∈ O, ∃ x, o = some x) → oD O = natsD (gd O)
  | [], _ => rfl
  | o :: O, h => by
    obtain ⟨x, rfl⟩ := h o List.mem_cons_self
    have := oD_all (O := O) fun o ho => h o (List.mem_cons_of_mem _ ho)
    show fD (some x) :: oD O = .int ((x : Nat)) :: natsD (gd O)
    rw [this]
    rfl
end
/-! ### courting -/
section
variable {one two : List (List Nat)} {n : Nat}
theorem out_setR {i : Nat} {f : Ev → Res} {env e2 : Ev} {m : M} {q : Ql} (h : f env = .ok (.own m) e2 q) (hi : i < e2.length) : dSet i f env = .nx (e2.set i (some m)) := by
  unfold dSet
  rw [h]
  exact if_pos hi
theorem pop0 {s : Nat} {env : Ev} {i : Nat} {l : List Nat} (hs : env[s]? = some (oM (i :: l))) (hl : l.length ≤ 1000) : dPop s (dLit (.int 0)) env = .ok (.own (.fz (.int (i : Nat)))) (env.set s (oM l)) .l := by
  have hls : isLst env s = true := by unfold isLst; rw [hs]
  have e : seqIndex? (0 : Int) ((natsD (i :: l)).map M.fz).length = some 0 := by
    rw [List.length_map, natsD_len]
    unfold seqIndex?
    first
      | (simp; done)
      | (simp; omega)
      | (split <;> simp <;> omega)
  unfold dPop
  rw [if_pos hls]
  show (match (Res.ok (.own (.fz (.int 0))) env .p) with
    | .ok (.own (.fz (.int i))) e1 _ => _
    | .ok _ _ _ => Res.stuck
    | .exn c e => .exn c e
    | .stuck => .stuck) = _
  simp only [hs]
  rw [if_pos (by omega), e]
  rfl
abbrev cE (one two : List (List Nat)) (n : Nat) (s : GS) (x6 x7 : Option M) : Ev := [gM one, gM two, nM n, oM s.pl, some (.lst ((oD s.ho).map .fz)), oM s.fr, x6, x7]
abbrev condC : Ev → Res := dG (kPl oGt) [dG (kLen) [dPk 5], dLit (.int 0)]
abbrev asgC : Ev → Out := dAsg (gPut 4 (dPk 7)) (dTk 6)
abbrev ifC : Ev → Out := (dIfS (dG (kIs false) [dIx (dPk 4) (dPk 7), dLit .none]) asgC (dIfS (dG (kPl oLt) [dIdx (dIx (dPk 1) (dPk 7)) (dPk 6), dIdx (dIx (dPk 1) (dPk 7)) (dIx (dPk 4) (dPk 7))]) (dSeq (dEx (dApp 5 (dIx (dPk 4) (dPk 7)))) asgC) (dEx (dApp 5 (dTk 6)))))
abbrev bodyC : Ev → Out := (dSeq (dSet 6 (dPop 5 (dLit (.int 0))))
    (dSeq (dSet 7 (dFr (dIx (dIx (dPk 0) (dPk 6)) (dIx (dPk 3) (dPk 6)))))
    (dSeq (dAugP 3 (fun i j => some (i + j)) (dPk 6) (dLit (.int 1))) ifC)))
theorem yq_condC {s : GS} {x6 x7 : Option M} : YQ condC (cE one two n s x6 x7) (.own (.fz (.bool (decide (0 < s.fr.length))))) :=
  yq_gtN (b := 0) (yq_len (n := s.fr.length) (yq_vw (i := 5) (ms := (natsD s.fr).map .fz) rfl) (by simp [lenV, natsD_len])) yq_litN rfl
theorem court_one (sd : Sides one two n) {s : GS} (v : Inv one two n s) (ne : s.fr ≠ []) {x6 x7 : Option M} : ∃ i k : Nat, bodyC (cE one two n s x6 x7) = .nx (cE one two n (s.step one two) (nM i) (nM k)) := by
  have n6 := sd.n6
  have l1 := sd.l1
  have l2 := sd.l2
  obtain ⟨pl, ho, fr0⟩ := s
  cases fr0 with
  | nil => exact absurd rfl ne
  | cons i fr =>
    have hp : pl.getD i 0 < n := ask_ok sd v (i := i) List.mem_cons_self
    obtain ⟨hin, hno⟩ := (v.fr i).mp List.mem_cons_self
    have lp : pl.length = n := v.lp
    have lh : ho.length = n := v.lh
    have vhlt : ∀ k i, k < n → ho.getD k none = some i → i < n := fun k i h1 h2 => (v.hlt k i h1 h2).1
    have frl : (i :: fr).length ≤ n := nodup_len v.nd fun x hx => ((v.fr x).mp hx).1
    have frl : fr.length + 1 ≤ n := frl
    have ri := sd.r1 hin
    have hk : pf one i (pl.getD i 0) < n := ri.get_lt hp
    have s6 : dSet 6 (dPop 5 (dLit (.int 0))) (cE one two n ⟨pl, ho, i :: fr⟩ x6 x7) = .nx (cE one two n ⟨pl, ho, fr⟩ (nM i) x7) := out_setR (pop0 (s := 5) (i := i) (l := fr) rfl (by omega)) (by show 6 < 8; decide)
    have s7 : dSet 7 (dFr (dIx (dIx (dPk 0) (dPk 6)) (dIx (dPk 3) (dPk 6)))) (cE one two n ⟨pl, ho, fr⟩ (nM i) x7) = .nx (cE one two n ⟨pl, ho, fr⟩ (nM i) (nM (pf one i (pl.getD i 0)))) :=
      out_set (yq_fr (m := .fz (.int (pf one i (pl.getD i 0) : Nat))) (yq_ix (yq_ix (yq_pk (i := 0) rfl) (yq_pk (i := 6) rfl) (ix_gD (by omega))) (yq_ix (yq_vw (i := 3) (ms := (natsD pl).map .fz) rfl) (yq_pk (i := 6) rfl) (ix_vwN (by omega))) (ix_tupN (by rw [ri.len]; exact hp))) rfl) (by show 7 < 8; decide)
    have s3 : dAugP 3 (fun i j => some (i + j)) (dPk 6) (dLit (.int 1)) (cE one two n ⟨pl, ho, fr⟩ (nM i) (nM (pf one i (pl.getD i 0)))) = .nx (cE one two n ⟨pl.set i (pl.getD i 0 + 1), ho, fr⟩ (nM i) (nM (pf one i (pl.getD i 0)))) := by
      refine (out_augP (s := 3) (ms := (natsD pl).map .fz) (k := (i : Nat)) (j := i) (x := ((pl.getD i 0 : Nat) : Int)) (y := 1) (z := ((pl.getD i 0 + 1 : Nat) : Int)) rfl (yq_pk (i := 6) rfl) yq_lit (by rw [List.length_map, natsD_len, lp]; exact ixN_of hin) (nats_get (by omega)) (by simp)).trans ?_
      rw [nats_set]
      rfl
    generalize hkk : pf one i (pl.getD i 0) = k at *
    have r2 := sd.r2 hk
    have asg : ∀ {pl' fr' : List Nat}, asgC (cE one two n ⟨pl', ho, fr'⟩ (nM i) (nM k)) = .nx (cE one two n ⟨pl', ho.set k (some i), fr'⟩ (nM i) (nM k)) := fun {pl' fr'} => by
      refine (out_put (s := 4) (k := (k : Nat)) (j := k) (ms := (oD ho).map .fz) (d := .int (i : Nat)) (yq_tk (i := 6) rfl) (yq_pk (i := 7) rfl) rfl (by rw [List.length_map, oD_len, lh]; exact ixN_of hk)).trans ?_
      rw [oD_set]
      rfl
    have hold : ∀ {pl' fr' : List Nat}, YQ (dIx (dPk 4) (dPk 7)) (cE one two n ⟨pl', ho, fr'⟩ (nM i) (nM k)) (.own (.fz (fD (ho.getD k none)))) := fun {pl' fr'} => yq_ix (yq_vw (i := 4) (ms := (oD ho).map .fz) rfl) (yq_pk (i := 7) rfl) (oD_ix (by omega))
    refine ⟨i, k, (out_seq s6).trans ((out_seq s7).trans ((out_seq s3).trans ?_))⟩
    have t1 := yq_isN (hold (pl' := pl.set i (pl.getD i 0 + 1)) (fr' := fr))
    unfold GS.step
    simp only [hkk]
    cases eh : ho.getD k none with
    | none =>
      simp only [eh]
      rw [eh] at t1
      exact (out_ifT t1 rfl).trans asg
    | some h =>
      simp only [eh]
      rw [eh] at t1
      refine (out_ifF t1 rfl).trans ?_
      have hh := vhlt k h hk eh
      have hold2 : ∀ {pl' fr' : List Nat}, YQ (dIx (dPk 4) (dPk 7)) (cE one two n ⟨pl', ho, fr'⟩ (nM i) (nM k)) (.own (.fz (.int (h : Nat)))) := fun {pl' fr'} => by
        have z := hold (pl' := pl') (fr' := fr')
        rw [eh] at z
        exact z
      have t2 := yq_ltN (yq_rk (rows := two) (i := k) (k := i) (yq_pk (i := 1) (env := cE one two n ⟨pl.set i (pl.getD i 0 + 1), ho, fr⟩ (nM i) (nM k)) rfl) (yq_pk (i := 7) rfl) (yq_pk (i := 6) rfl) (by omega) (r2.mem.mpr hin)) (yq_rk (rows := two) (i := k) (k := h) (yq_pk (i := 1) rfl) (yq_pk (i := 7) rfl) hold2 (by omega) (r2.mem.mpr hh)) rfl
      by_cases hlt : rk two k i < rk two k h
      · rw [if_pos hlt]
        rw [decide_eq_true hlt] at t2
        refine (out_ifT t2 rfl).trans ?_
        refine (out_seq ((out_app (s := 5) (ms := (natsD fr).map .fz) (d := .int (h : Nat)) rfl hold2 (by rw [List.length_map, natsD_len]; unfold SZ; omega)).trans ?_)).trans (asg (pl' := pl.set i (pl.getD i 0 + 1)) (fr' := fr ++ [h]))
        rw [nats_snoc]
        rfl
      · rw [if_neg hlt]
        rw [decide_eq_false hlt] at t2
        refine (out_ifF t2 rfl).trans ?_
        refine (out_app (s := 5) (ms := (natsD fr).map .fz) (d := .int (i : Nat)) rfl (yq_tk (i := 6) rfl) (by rw [List.length_map, natsD_len]; unfold SZ; omega)).trans ?_
        rw [nats_snoc]
        rfl
theorem court_run (sd : Sides one two n) : ∀ (m : Nat) {s : GS} (o6 : Option PyData) (x7 : Option M), Inv one two n s → n * n ≤ s.pl.sum + m → ∃ j t o6' x7', runW condC bodyC j (cE one two n s (fzO o6) x7) = .nx (cE one two n t (fzO o6') x7') ∧ Inv one two n t ∧ t.fr = []
  | m, s, o6, x7, v, h => by
    by_cases e : s.fr = []
    · have z := yq_condC (one := one) (two := two) (n := n) (s := s) (x6 := fzO o6) (x7 := x7)
      rw [decide_eq_false (by rw [e]; simp)] at z
      exact ⟨1, s, o6, x7, runW_F z, v, e⟩
    · obtain ⟨v2, e2⟩ := inv_step sd v e
      have z := yq_condC (one := one) (two := two) (n := n) (s := s) (x6 := fzO o6) (x7 := x7)
      rw [decide_eq_true (List.length_pos_iff.mpr e)] at z
      obtain ⟨i, k, hb⟩ := court_one sd v e (x6 := fzO o6) (x7 := x7)
      cases m with
      | zero =>
        have := v2.sum_le
        omega
      | succ m =>
        obtain ⟨j, t, o6', x7', hr, h3⟩ := court_run sd m (some (.int (i : Nat))) (nM k) v2 (by omega)
        exact ⟨j + 1, t, o6', x7', (runW_T z hb).trans hr, h3⟩
theorem out_nats {t : GS} (v : Inv one two n t) (e : t.fr = []) : oD t.ho = natsD (gd t.ho) ∧ ∀ i, i < n → i ∈ gd t.ho ∧ (gd t.ho).idxOf i = (t.out n).getD i 0 := by
  have lh := v.lh
  have hO := out_perm v e
  have all : ∀ o ∈ t.ho, ∃ x, o = some x := fun o ho => by
    obtain ⟨k, hk, rfl⟩ := List.getElem_of_mem ho
    have hkn : k < n := by omega
    have h1 := (end_holds v e (hO.idx_lt hkn)).2
    rw [hO.get_idx hkn] at h1
    exact ⟨_, by rw [← h1]; simp [hk]⟩
  refine ⟨oD_all all, fun i hi => ?_⟩
  obtain ⟨h1, h2⟩ := end_holds v e hi
  have em : t.ho = (gd t.ho).map some := by
    unfold gd
    rw [List.map_map]
    refine ((List.map_congr_left fun o ho => ?_).trans (List.map_id _)).symm
    obtain ⟨x, rfl⟩ := all o ho
    rfl
  have hl : (t.out n).getD i 0 < t.ho.length := by omega
  have hm : i ∈ gd t.ho := by
    refine List.mem_map.mpr ⟨some i, ?_, rfl⟩
    rw [← h2, getD_el hl]
    exact List.getElem_mem hl
  refine ⟨hm, ?_⟩
  have eo : (t.out n).getD i 0 = t.ho.findIdx (fun o => decide (o = some i)) := by simp [GS.out, hi]
  rw [eo]
  conv => rhs; rw [em]
  rw [List.findIdx_map]
  unfold List.idxOf
  congr 1
  funext x
  by_cases hx : x = i <;> simp [hx]
theorem courted_eq (sd : Sides one two n) : ∃ t, Inv one two n t ∧ t.fr = [] ∧ outR (d_courted (startE 8 [.fz (gD one), .fz (gD two)])) = .ret (.fz (.tuple (natsD (t.out n)))) := by
  have n6 := sd.n6
  obtain ⟨j, t, o6, x7, hr, v, e⟩ := court_run sd (n * n) (s := GS.start n) none none (inv_start sd) (by omega)
  refine ⟨t, v, e, ?_⟩
  have e0 : startE 8 [.fz (gD one), .fz (gD two)] = [gM one, gM two, none, none, none, none, none, none] := rfl
  rw [e0]
  unfold d_courted
  refine Eq.trans (oset (m := .fz (.int (n : Nat))) (by have z := yq_lenG (rn := one) (f := dPk 0) (env := [gM one, gM two, none, none, none, none, none, none]) (yq_pk (i := 0) rfl); rw [sd.l1] at z; exact z) (by show 2 < 8; decide)) ?_
  have s3 : dPar3 3 4 5 (dG kMul [dLst [dLit (.int 0)], dPk 2]) (dG kMul [dLst [dLit .none], dPk 2]) (dG kLRng [dPk 2]) [gM one, gM two, nM n, none, none, none, none, none] = .nx (cE one two n (GS.start n) none none) := by
    have y2 : YQ (dPk 2) [gM one, gM two, nM n, none, none, none, none, none] (.own (.fz (.int (n : Nat)))) := yq_pk (i := 2) rfl
    have yl0 : YQ (dLst [dLit (.int 0)]) [gM one, gM two, nM n, none, none, none, none, none] (.own (.lst [.fz (.int 0)])) := yq_Fn (ys_cons (yq_lit (d := .int 0)) ys_nil) rfl
    have yln : YQ (dLst [dLit .none]) [gM one, gM two, nM n, none, none, none, none, none] (.own (.lst [.fz .none])) := yq_Fn (ys_cons (yq_lit (d := .none)) ys_nil) rfl
    have k0 := yq_G (k := kMul) (b := true) (ys_cons yl0 (ys_cons y2 ys_nil)) (kmul_zeros (by omega))
    have kn := yq_G (k := kMul) (b := true) (ys_cons yln (ys_cons y2 ys_nil)) (by
      have h1 : kMulP [.own (.lst [.fz .none]), .own (.fz (.int (n : Nat)))] = none := rfl
      have h2 : kMulL [.own (.lst [.fz .none]), .own (.fz (.int (n : Nat)))] = some (.own (.lst ((oD (List.replicate n none)).map .fz)), true) := by
        have := kmulL_of (x := .own (.lst [.fz .none])) (ds := [.none]) (n := n) rfl (by omega) (by simp)
        rw [flat1] at this
        rw [this]
        unfold oD
        rw [List.map_replicate, List.map_replicate, List.map_replicate]
        rfl
      unfold kMul
      rw [h1, h2]
      rfl)
    have kr := yq_G (k := kLRng) (b := true) (ys_cons y2 ys_nil) (klrng (by omega))
    have e1 : (rngD 0 n).map M.fz = (natsD (List.range n)).map .fz := by rw [rngD_ints]; rfl
    rw [e1] at kr
    exact out_par3 (ys_cons k0 (ys_cons kn (ys_cons kr ys_nil))) (by show 3 < 8; decide) (by show 4 < 8; decide) (by show 5 < 8; decide)
  refine Eq.trans (congrArg outR (out_seq s3)) ?_
  refine Eq.trans (congrArg outR (out_seq (dWhile_of hr (by simp)))) ?_
  obtain ⟨h1, h2⟩ := out_nats v e
  have lc := yq_lc0 (p := gNm 6) (src := dG kRng [dPk 2]) (f := dIdx (dPk 4) (dPk 6)) (vs := [6]) (env := cE one two n t (fzO o6) x7) [gM one, gM two, nM n, oM t.pl, some (.lst ((oD t.ho).map .fz)), oM t.fr, none, x7] (fun d => .fz (.int ((t.out n).getD (unI d) 0 : Nat))) (yq_rngN (n := n) (yq_pk (i := 2) rfl) (by omega)) (fun d hd => by
    obtain ⟨i, hi, rfl⟩ := rngD_mem hd
    refine ⟨[gM one, gM two, nM n, oM t.pl, some (.lst ((oD t.ho).map .fz)), oM t.fr, nM i, x7], rfl, ?_, rfl⟩
    obtain ⟨m1, m2⟩ := h2 i hi
    show YQ _ _ (.own (.fz (.int ((t.out n).getD i 0 : Nat))))
    rw [← m2, h1]
    exact yq_idxL (yq_vw (i := 4) (ms := (natsD (gd t.ho)).map .fz) rfl) (leaves_fz _) rfl (yq_pk (i := 6) rfl) m1) (by cases o6 <;> rfl) rfl rfl
  have el : (rngD 0 n).map (fun d => (.fz (.int ((t.out n).getD (unI d) 0 : Nat)) : M)) = (natsD (t.out n)).map .fz := by
    have eo : t.out n = (List.range n).map fun i => (t.out n).getD i 0 := by
      apply List.ext_getElem
      · simp [GS.out]
      · intro i a1 a2
        simp only [List.getElem_map, List.getElem_range, getD_el a1]
    conv => rhs; rw [eo]
    rw [rngD_ints]
    unfold natsD
    rw [List.map_map, List.map_map, List.map_map]
    rfl
  rw [el] at lc
  exact oret (yq_tupOf (ds := natsD (t.out n)) lc (seqv_lst _))
/-! ### the best ones -/
theorem first_eq (sd : Sides one two n) : ∃ t, Inv one two n t ∧ t.fr = [] ∧ outR (d_first_best (startE 2 [.fz (gD one), .fz (gD two)])) = .ret (.fz (.tuple (natsD (t.out n)))) := by
  obtain ⟨t, v, e, h⟩ := courted_eq sd
  refine ⟨t, v, e, ?_⟩
  have e0 : startE 2 [.fz (gD one), .fz (gD two)] = [gM one, gM two] := rfl
  rw [e0]
  unfold d_first_best
  refine Eq.trans (oex (yq_call2 (yq_pk (i := 0) rfl) (yq_pk (i := 1) rfl) (cs_ok sd))) ?_
  exact oret (yq_call2 (yq_pk (i := 0) rfl) (yq_pk (i := 1) rfl) h)
theorem second_eq (sd : Sides one two n) : ∃ t, Inv two one n t ∧ t.fr = [] ∧ outR (d_second_best (startE 4 [.fz (gD one), .fz (gD two)])) = .ret (.fz (.tuple (natsD (invL n (t.out n))))) := by
  obtain ⟨t, v, e, h⟩ := courted_eq sd.swap
  refine ⟨t, v, e, ?_⟩
  have n6 := sd.n6
  have hO := out_perm v e
  have e0 : startE 4 [.fz (gD one), .fz (gD two)] = [gM one, gM two, none, none] := rfl
  rw [e0]
  unfold d_second_best
  refine Eq.trans (oex (yq_call2 (yq_pk (i := 0) rfl) (yq_pk (i := 1) rfl) (cs_ok sd))) ?_
  refine Eq.trans (oset (m := .fz (.tuple (natsD (t.out n)))) (yq_call2 (yq_pk (i := 1) rfl) (yq_pk (i := 0) rfl) h) (by show 2 < 4; decide)) ?_
  have lc := yq_lc0 (p := gNm 3) (src := dG kRng [dG (kLen) [dPk 0]]) (f := dIdx (dPk 2) (dPk 3)) (vs := [3]) (env := [gM one, gM two, tM (t.out n), none]) [gM one, gM two, tM (t.out n), none] (fun d => .fz (.int ((t.out n).idxOf (unI d) : Nat))) (yq_rngN (n := n) (by have z := yq_lenG (rn := one) (f := dPk 0) (env := [gM one, gM two, tM (t.out n), none]) (yq_pk (i := 0) rfl); rw [sd.l1] at z; exact z) (by omega)) (fun d hd => by
    obtain ⟨i, hi, rfl⟩ := rngD_mem hd
    exact ⟨[gM one, gM two, tM (t.out n), nM i], rfl, yq_idxT (yq_pk (i := 2) rfl) (yq_pk (i := 3) rfl) (hO.mem.mpr hi), rfl⟩) rfl rfl rfl
  have el : (rngD 0 n).map (fun d => (.fz (.int ((t.out n).idxOf (unI d) : Nat)) : M)) = (natsD (invL n (t.out n))).map .fz := by
    rw [rngD_ints]
    unfold natsD invL
    rw [List.map_map, List.map_map, List.map_map]
    rfl
  rw [el] at lc
  exact oret (yq_tupOf (ds := natsD (invL n (t.out n))) lc (seqv_lst _))
/-! ### unrest, rests of the program -/
theorem found_eq (sd : Sides one two n) {N : List Nat} (hN : IsP N n) : outR (d_found_pair (startE 5 [.fz (gD one), .fz (gD two), .fz (.tuple (natsD N))])) = .ret (.fz (unrD (unr one two n N))) := lunrest_eq sd hN

theorem every_eq (sd : Sides one two n) : outR (d_every_rest (startE 3 [.fz (gD one), .fz (gD two)])) = .ret (.fz (.list (rsD (restsL one two n)))) := by
  have e0 : startE 3 [.fz (gD one), .fz (gD two)] = [gM one, gM two, none] := rfl
  rw [e0]
  unfold d_every_rest
  have lc := yq_lc (p := gNm 2) (src := dIt (dCall 5 d_turns_of [dG (kLen) [dPk 0]])) (t := dG (kIs false) [dCall 5 d_found_pair [dPk 0, dPk 1, dPk 2], dLit .none]) (f := dTk 2) (vs := [2]) (env := [gM one, gM two, none]) [gM one, gM two, none] (fun d => decide (unr one two n (unN d) = none)) M.fz (yq_it (m := .fz (.list (rsD (permsK n n)))) (yq_call1 (yq_lenG (rn := one) (yq_pk (i := 0) rfl)) (by rw [sd.l1]; exact turns_eq sd.n6)) rfl rfl) (fun d hd => by
    obtain ⟨N, hN, rfl⟩ := List.mem_map.mp hd
    have hN := perms_mem.mp hN
    refine ⟨[gM one, gM two, tM N], rfl, ?_, fun _ => yq_tk (i := 2) rfl, rfl⟩
    refine yq_isNoneD (yq_call3 (yq_pk (i := 0) rfl) (yq_pk (i := 1) rfl) (yq_pk (i := 2) rfl) (found_eq sd hN)) ?_
    rw [unN_nats]
    have key : ∀ o : Option (Nat × Nat), decide (o = none) = isNoD (unrD o) := fun o => by cases o <;> rfl
    exact key _) rfl rfl rfl
  have e : ((rsD (permsK n n)).filter fun d => decide (unr one two n (unN d) = none)).map M.fz = (rsD (restsL one two n)).map .fz := by
    unfold restsL rsD
    rw [List.filter_map]
    congr 2
    apply List.filter_congr
    intro N _
    show decide (unr one two n (unN (.tuple (natsD N))) = none) = _
    rw [unN_nats]
  rw [e] at lc
  exact oret (yq_fr lc (frz_lst _))

end
end Q

set_option Elab.async false
set_option linter.all false
set_option maxRecDepth 100000
set_option maxHeartbeats 4000000
set_option exponentiation.threshold 1000
/-! What is drawn. -/
namespace Q
open PySem PySem.Spec PyProof.Rows L2
theorem tkL {e : Dr → Ev} {g : Ev → Res} {t : Int} {s : Nat} (a : ∀ D, (e D)[s]? = some (some D.m)) (b : ∀ D D2, (e D).set s (some D2.m) = e D2) (c : DV g e (Is (.int t))) (d : 1 ≤ t) (h : t ≤ 1000) : DV (dCallI 3 d__law_take [.io s, .v g]) e (IsI fun i => 0 ≤ i ∧ i < t) := dv_tk a b c d (lg_small (by omega) (by omega))
abbrev oE (n : Nat) (L F : List Nat) (x4 : Option M) (D : Dr) : Ev := [some D.m, nM n, oM L, oM F, x4]
theorem order_den {n : Nat} (n1 : 1 ≤ n) (n6 : n ≤ 6) {D : Dr} (ok : Dr.Ok D) : RO 0 d__law_order (startE 5 [D.m, .fz (.int (n : Nat))]) fun mm => ∃ ord : List Nat, ord.Perm (List.range n) ∧ mm = .fz (.tuple (natsD ord)) := by
  have e0 : startE 5 [D.m, .fz (.int (n : Nat))] = [some D.m, nM n, none, none, none] := rfl
  rw [e0]
  unfold d__law_order
  have e1 : (rngD 0 n).map M.fz = (natsD (List.range n)).map .fz := by rw [rngD_ints]; rfl
  have y1 := yq_G (k := kLRng) (b := true) (ys_cons (yq_pk (i := 1) (d := .int (n : Nat)) (env := [some D.m, nM n, none, none, none]) rfl) ys_nil) (klrng (by omega))
  rw [e1] at y1
  refine ro_st (out_set y1 (by show 2 < 5; decide)) ?_
  refine ro_st (env2 := oE n (List.range n) [] none D) (out_set (m := .lst []) (yq_Fn ys_nil rfl) (by show 3 < 5; decide)) ?_
  obtain ⟨e2, h1, D2, L, F, x4, ok2, hp, hl, h2⟩ := runF_ix (p := gNm 4) (b := dEx (dApp 3 (dPop 2 (dCallI 3 d__law_take [.io 0, .v (dG (kLen) [dPk 2])])))) (fun k env => ∃ D L F x4, Dr.Ok D ∧ (F ++ L).Perm (List.range n) ∧ F.length = k ∧ env = oE n L F x4 D) (ds := rngD 0 n) (k := 0) (env := oE n (List.range n) [] none D) (fun k d hd env => by
    rintro ⟨D, L, F, x4, ok, hp, hl, rfl⟩
    have hk : k < n := by
      have := (List.getElem?_eq_some_iff.mp hd).1
      rwa [rngD_len] at this
    rw [Nat.zero_add] at hl ⊢
    have hL := hp.length_eq
    rw [List.length_append, List.length_range] at hL
    have dv := tkL (e := fun D => oE n L F (some (.fz d)) D) (g := dG (kLen) [dPk 2]) (t := (L.length : Nat)) (s := 0) (fun _ => rfl) (fun _ _ => rfl) (dv_q fun _ _ => yq_len (n := L.length) (yq_vw (i := 2) (ms := (natsD L).map .fz) rfl) (by simp [lenV, natsD_len])) (by omega) (by omega)
    obtain ⟨j, d2, D2, ok2, hj, hd2, hr⟩ := app_pop (s := 2) (z := 3) (ms := (natsD L).map .fz) (ns := (natsD F).map .fz) dv (fun _ => rfl) (fun _ => rfl) (by rw [List.length_map, natsD_len]; unfold SZ; omega) (by decide) (fun i hi => by
      refine ⟨i.toNat, .int (L.getD i.toNat 0 : Nat), by omega, by rw [List.length_map, natsD_len]; omega, by rw [List.length_map, natsD_len]; omega, nats_get (by omega)⟩) ok
    rw [List.length_map, natsD_len] at hj
    rw [nats_get hj] at hd2
    obtain rfl : PyData.int (L.getD j 0 : Nat) = d2 := by
      have := Option.some.inj hd2
      injection this
    rw [nats_snoc] at hr
    have ee : ((natsD L).map M.fz).eraseIdx j = (natsD (L.eraseIdx j)).map .fz := by
      unfold natsD
      rw [erase_map, erase_map]
    rw [ee] at hr
    refine ⟨oE n L F (some (.fz d)) D, oE n (L.eraseIdx j) (F ++ [L.getD j 0]) (some (.fz d)) D2, rfl, .inl hr, D2, _, _, _, ok2, ?_, by rw [List.length_append, hl]; rfl, rfl⟩
    have eg : L.getD j 0 = L[j] := by simp [hj]
    rw [eg, List.append_assoc]
    exact ((erase_perm L j hj).append_left F).trans hp) ⟨D, _, _, _, ok, by simp, rfl, rfl⟩
  rw [rngD_len, Nat.zero_add] at hl
  subst h2
  refine ro_st ((out_for (yq_rngN (n := n) (yq_pk (i := 1) rfl) (by omega))).trans h1) ?_
  have hL := hp.length_eq
  rw [List.length_append, List.length_range] at hL
  have L0 : L = [] := List.length_eq_zero_iff.mp (by omega)
  rw [L0, List.append_nil] at hp
  exact do_ret (e := fun D => oE n L F x4 D) ok2 (dv_own (fun _ _ => yq_tupOf (ds := natsD F) (yq_vw (i := 3) (ms := (natsD F).map .fz) rfl) (seqv_vw _)) ⟨F, hp, rfl⟩) fun _ => rfl
/-! ### sides are drawn -/
theorem seq_assoc (a b c : Ev → Out) (env : Ev) : dSeq (dSeq a b) c env = dSeq a (dSeq b c) env := by
  unfold dSeq
  cases a env <;> rfl
theorem ro_assoc {a b c : Ev → Out} {env : Ev} {s : Nat} {R : M → Prop} (h : RO s (dSeq a (dSeq b c)) env R) : RO s (dSeq (dSeq a b) c) env R := by
  obtain ⟨m, D2, e2, h1, h2, h3, h4⟩ := h
  exact ⟨m, D2, e2, h1, h2, (seq_assoc a b c env).trans h3, h4⟩
theorem do_ifgo {t : Ev → Res} {a rest : Ev → Out} {e : Dr → Ev} {s : Nat} {R : M → Prop} {P : Bool → Prop} {D : Dr} (ok : Dr.Ok D) (h : DV t e fun x => ∃ b, x = .own (.fz (.bool b)) ∧ P b) (h1 : ∀ D, Dr.Ok D → P true → RO s (dSeq a rest) (e D) R) (h2 : ∀ D, Dr.Ok D → P false → RO s rest (e D) R) : RO s (dSeq (dIfS t a dNx) rest) (e D) R := by
  obtain ⟨x, D2, q, ok2, ⟨b, rfl, p⟩, h3⟩ := h D ok
  cases b with
  | true =>
    obtain ⟨m, D3, e3, k1, k2, k3, k4⟩ := h1 D2 ok2 p
    refine ⟨m, D3, e3, k1, k2, ?_, k4⟩
    rw [← k3]
    unfold dSeq dIfS
    rw [h3]
  | false =>
    obtain ⟨m, D3, e3, k1, k2, k3, k4⟩ := h2 D2 ok2 p
    refine ⟨m, D3, e3, k1, k2, ?_, k4⟩
    rw [← k3]
    unfold dSeq dIfS
    rw [h3]
    rfl
theorem perm3 {p q r : Nat → Bool} : ∀ {l : List Nat}, (∀ x ∈ l, (p x = true ∧ q x = false ∧ r x = false) ∨ (p x = false ∧ q x = true ∧ r x = false) ∨ (p x = false ∧ q x = false ∧ r x = true)) → (l.filter p ++ (l.filter q ++ l.filter r)).Perm l
  | [], _ => List.Perm.refl _
  | a :: l, h => by
    have ih := perm3 (l := l) fun x hx => h x (List.mem_cons_of_mem _ hx)
    rcases h a List.mem_cons_self with ⟨h1, h2, h3⟩ | ⟨h1, h2, h3⟩ | ⟨h1, h2, h3⟩
    · simp only [List.filter_cons, h1, h2, h3, if_true, Bool.false_eq_true, if_false, List.cons_append]
      exact ih.cons a
    · simp only [List.filter_cons, h1, h2, h3, if_true, Bool.false_eq_true, if_false, List.cons_append]
      exact List.perm_middle.trans (ih.cons a)
    · simp only [List.filter_cons, h1, h2, h3, if_true, Bool.false_eq_true, if_false]
      rw [← List.append_assoc]
      refine List.perm_middle.trans ?_
      rw [List.append_assoc]
      exact ih.cons a
section
variable {n : Nat}
def cyc (F : List Nat) (i : Nat) : List Nat := F.drop i ++ F.take i
theorem cyc_perm {F : List Nat} (h : IsP F n) (i : Nat) : IsP (cyc F i) n := by
  unfold cyc
  refine List.perm_append_comm.trans ?_
  rw [List.take_append_drop]
  exact h
def cycs (F : List Nat) (n : Nat) : List (List Nat) := (List.range n).map (cyc F)
theorem cycs_len (F : List Nat) : (cycs F n).length = n := by simp [cycs]
theorem cycs_perm {F : List Nat} (h : IsP F n) : ∀ r ∈ cycs F n, IsP r n := fun r hr => by
  obtain ⟨i, _, rfl⟩ := List.mem_map.mp hr
  exact cyc_perm h i
section
variable (rows : List (List Nat)) (n k : Nat)
def pA (i : Nat) : Bool := decide (pf rows i (n - 1) = k)
def pB (i : Nat) : Bool := !decide (pf rows i (n - 1) = k) && !decide (pf rows i 0 = k)
def pC (i : Nat) : Bool := decide (pf rows i 0 = k) && !decide (pf rows i (n - 1) = k)
def rowT : List Nat := (List.range n).filter (pA rows n k) ++ ((List.range n).filter (pB rows n k) ++ (List.range n).filter (pC rows n k))
end
theorem rowT_perm (rows : List (List Nat)) (k : Nat) : IsP (rowT rows n k) n := perm3 fun x _ => by
  unfold pA pB pC
  generalize decide (pf rows x (n - 1) = k) = a
  generalize decide (pf rows x 0 = k) = b
  cases a <;> cases b <;> simp
/-- a side of drawn orders -/
theorem side_dv (n1 : 1 ≤ n) (n6 : n ≤ 6) {x2 x3 x4 x5 x6 : Option M} : DV (dG (kTupOf) [dLc (gNm 7) (dG kRng [dPk 1]) (dLit (.bool true)) (dCallI 5 d__law_order [.io 0, .v (dTk 1)]) [7]])
    (fun D => [some D.m, nM n, x2, x3, x4, x5, x6, none]) fun x => ∃ m, x = .own m ∧ ∃ rows : List (List Nat), rows.length = n ∧ (∀ r ∈ rows, IsP r n) ∧ m = .fz (gD rows) := by
  have lc := dv_lc (p := gNm 7) (src := dG kRng [dPk 1]) (vs := [7]) (f := dCallI 5 d__law_order [.io 0, .v (dTk 1)]) (ds := rngD 0 n)
    (e := fun D => [some D.m, nM n, x2, x3, x4, x5, x6, none])
    (fun D => [some D.m, nM n, x2, x3, x4, x5, x6, none])
    (fun d D => [some D.m, nM n, x2, x3, x4, x5, x6, some (.fz d)])
    (fun _ m => ∃ r : List Nat, m = .fz (.tuple (natsD r)) ∧ IsP r n)
    (dv_q fun D _ => yq_rngN (n := n) (yq_pk (i := 1) rfl) (by omega))
    (fun d _ => ⟨fun _ => rfl, (dv_ioE (s := 0) (gs := [dTk 1]) rfl (fun _ => rfl) (fun _ _ => rfl) (dvs_is1 (dv_q fun _ _ => yq_tk (i := 1) rfl)) fun ms h D ok => by
      subst h
      exact (order_den n1 n6 ok).imp fun m ⟨r, h1, h2⟩ => ⟨r, h2, h1⟩), fun _ => rfl⟩)
  refine dv_tupOf lc fun ms a => ?_
  obtain ⟨rows, h3, h4, h5⟩ := all2_F (F := fun r : List Nat => .fz (.tuple (natsD r))) a
  subst h3
  have := seqv_lst (rsD rows)
  rw [List.map_map] at this
  exact ⟨_, this, rows, by rw [h4, rngD_len], h5, rfl⟩
abbrev sE (n : Nat) (one : List (List Nat)) (F : List Nat) (tw : List (List Nat)) (x5 x6 : Option M) (D : Dr) : Ev := [some D.m, nM n, gM one, some (.lst ((rsD tw).map .fz)), tM F, x5, x6, none]
theorem filt_rng (c : Nat → Bool) : ((rngD 0 n).filter fun d => c (unI d)).map M.fz = (natsD ((List.range n).filter c)).map .fz := by
  rw [rngD_ints, List.filter_map]
  rfl
theorem rsD_mapf (f : Nat → List Nat) : (rngD 0 n).map (fun d => (.fz (.tuple (natsD (f (unI d)))) : M)) = (rsD ((List.range n).map f)).map .fz := by
  rw [rngD_ints]
  unfold rsD
  rw [List.map_map, List.map_map, List.map_map]
  rfl
theorem sides_den (n1 : 1 ≤ n) (n6 : n ≤ 6) {D : Dr} (ok : Dr.Ok D) : RO 0 d__law_sides (startE 8 [D.m, .fz (.int (n : Nat))]) fun m => ∃ one two, Sides one two n ∧ m = .fz (.tuple [gD one, gD two]) := by
  have e0 : startE 8 [D.m, .fz (.int (n : Nat))] = [some D.m, nM n, none, none, none, none, none, none] := rfl
  rw [e0]
  unfold d__law_sides
  refine do_set (e := fun D => [some D.m, nM n, none, none, none, none, none, none]) ok (side_dv n1 n6) (fun _ => by show 2 < 8; decide) ?_
  rintro _ D1 ok1 ⟨one, l1, p1, rfl⟩
  show RO 0 _ ((fun D : Dr => ([some D.m, nM n, gM one, none, none, none, none, none] : Ev)) D1) _
  refine do_set ok1 (side_dv n1 n6) (fun _ => by show 3 < 8; decide) ?_
  rintro _ D2 ok2 ⟨two, l2, p2, rfl⟩
  show RO 0 _ ((fun D : Dr => ([some D.m, nM n, gM one, gM two, none, none, none, none] : Ev)) D2) _
  have fin : ∀ {D : Dr} {one two : List (List Nat)} {x4 x5 x6 : Option M}, Dr.Ok D → Sides one two n → RO 0 (dRet (dTup [dTk 2, dTk 3])) ((fun D : Dr => ([some D.m, nM n, gM one, gM two, x4, x5, x6, none] : Ev)) D) (fun m => ∃ one two, Sides one two n ∧ m = .fz (.tuple [gD one, gD two])) := fun {D one two x4 x5 x6} ok sd =>
    do_ret (e := fun D => [some D.m, nM n, gM one, gM two, x4, x5, x6, none]) ok (dv_own (m := .fz (.tuple [gD one, gD two])) (P := fun m => ∃ one two, Sides one two n ∧ m = .fz (.tuple [gD one, gD two])) (fun _ _ => yq_Fn (ys_cons (yq_tk (i := 2) rfl) (ys_cons (yq_tk (i := 3) rfl) ys_nil)) rfl) ⟨one, two, sd, rfl⟩) fun _ => rfl
  refine do_ifgo ok2 (dv_eq0 (tkL (s := 0) (t := 3) (fun _ => rfl) (fun _ _ => rfl) (dv_q fun _ _ => yq_lit) (by decide) (by decide))) (fun D3 ok3 _ => ?_) fun D3 ok3 _ => fin (one := one) (two := two) ok3 ⟨n1, n6, l1, l2, p1, p2⟩
  refine ro_assoc ?_
  refine do_set (e := fun D => [some D.m, nM n, gM one, gM two, none, none, none, none]) (P := fun m => ∃ F : List Nat, IsP F n ∧ m = .fz (.tuple (natsD F))) ok3 (dv_ioE (s := 0) (gs := [dTk 1]) rfl (fun _ => rfl) (fun _ _ => rfl) (dvs_is1 (dv_q fun _ _ => yq_tk (i := 1) rfl)) fun ms h D ok => by
    subst h
    exact order_den n1 n6 ok) (fun _ => by show 4 < 8; decide) ?_
  rintro _ D4 ok4 ⟨F, hF, rfl⟩
  show RO 0 _ [some D4.m, nM n, gM one, gM two, tM F, none, none, none] _
  refine ro_assoc ?_
  have hFl := hF.len
  have s2 : dSet 2 (dG (kTupOf) [dLc (gNm 7) (dG kRng [dPk 1]) (dLit (.bool true)) (dG kAdd [dF Ql.n (kSl1 true) [dPk 4, dPk 7], dF Ql.n (kSl1 false) [dPk 4, dPk 7]]) [7]]) [some D4.m, nM n, gM one, gM two, tM F, none, none, none] = .nx [some D4.m, nM n, gM (cycs F n), gM two, tM F, none, none, none] := by
    have lc := yq_lc0 (p := gNm 7) (src := dG kRng [dPk 1]) (f := dG kAdd [dF Ql.n (kSl1 true) [dPk 4, dPk 7], dF Ql.n (kSl1 false) [dPk 4, dPk 7]]) (vs := [7]) (env := [some D4.m, nM n, gM one, gM two, tM F, none, none, none]) [some D4.m, nM n, gM one, gM two, tM F, none, none, none] (fun d => .fz (.tuple (natsD (cyc F (unI d))))) (yq_rngN (n := n) (yq_pk (i := 1) rfl) (by omega)) (fun d hd => by
      obtain ⟨i, hi, rfl⟩ := rngD_mem hd
      refine ⟨[some D4.m, nM n, gM one, gM two, tM F, none, none, nM i], rfl, ?_, rfl⟩
      have cA := yq_Fn (k := kSl1 true) (y := .own (.fz (.tuple (cutD (natsD F) (some ((i : Nat) : Int)) none)))) (ys_cons (yq_pk (i := 4) (d := .tuple (natsD F)) (env := [some D4.m, nM n, gM one, gM two, tM F, none, none, nM i]) rfl) (ys_cons (yq_pk (i := 7) (d := .int (i : Nat)) rfl) ys_nil)) rfl
      have cB := yq_Fn (k := kSl1 false) (y := .own (.fz (.tuple (cutD (natsD F) none (some ((i : Nat) : Int)))))) (ys_cons (yq_pk (i := 4) (d := .tuple (natsD F)) (env := [some D4.m, nM n, gM one, gM two, tM F, none, none, nM i]) rfl) (ys_cons (yq_pk (i := 7) (d := .int (i : Nat)) rfl) ys_nil)) rfl
      rw [cut_lo (by rw [natsD_len]; omega)] at cA
      rw [cut_hi (by rw [natsD_len]; omega)] at cB
      have z := yq_addT cA cB (by rw [List.length_drop, List.length_take, natsD_len]; unfold SZ; omega)
      have ez : (natsD F).drop i ++ (natsD F).take i = natsD (cyc F i) := by
        unfold natsD cyc
        rw [List.map_append, List.map_drop, List.map_take]
      rw [ez] at z
      exact z) rfl rfl rfl
    rw [rsD_mapf] at lc
    exact out_set (m := .fz (gD (cycs F n))) (yq_tupOf (ds := rsD (cycs F n)) lc (seqv_lst _)) (by show 2 < 8; decide)
  refine ro_st s2 ?_
  have l1' := cycs_len (n := n) F
  have p1' := cycs_perm hF
  generalize cycs F n = one at *
  refine ro_assoc ?_
  refine ro_st (env2 := sE n one F [] none none D4) (out_set (m := .lst []) (yq_Fn ys_nil rfl) (by show 3 < 8; decide)) ?_
  refine ro_assoc ?_
  obtain ⟨e2, h1, x5, x6, h2⟩ := runF_ix (p := gNm 5) (b := (dSeq (dSetF 6 (dLc (gNm 7) (dG kRng [dPk 1]) (dG (kPl oEq) [dIx (dIx (dPk 2) (dPk 7)) (dG (kPl oSub) [dPk 1, dLit (.int 1)]), dPk 5]) (dTk 7) [7]))
    (dSeq (dSet 6 (dFr (dG kAdd [dPk 6, dLc (gNm 7) (dG kRng [dPk 1]) (dIf (dG (kPl oNe) [dIx (dIx (dPk 2) (dPk 7)) (dG (kPl oSub) [dPk 1, dLit (.int 1)]), dPk 5]) (dG (kPl oNe) [dIx (dIx (dPk 2) (dPk 7)) (dLit (.int 0)), dPk 5]) (dLit (.bool false))) (dTk 7) [7]])))
    (dEx (dApp 3 (dG (kTupOf) [dG kAdd [dPk 6, dLc (gNm 7) (dG kRng [dPk 1]) (dIf (dG (kPl oEq) [dIx (dIx (dPk 2) (dPk 7)) (dLit (.int 0)), dPk 5]) (dG (kPl oNe) [dIx (dIx (dPk 2) (dPk 7)) (dG (kPl oSub) [dPk 1, dLit (.int 1)]), dPk 5]) (dLit (.bool false))) (dTk 7) [7]]])))))) (fun k env => ∃ x5 x6, env = sE n one F ((List.range k).map (rowT one n)) x5 x6 D4) (ds := rngD 0 n) (k := 0) (env := sE n one F [] none none D4) (fun k d hd env => by
    rintro ⟨x5, x6, rfl⟩
    have hk : k < n := by
      have := (List.getElem?_eq_some_iff.mp hd).1
      rwa [rngD_len] at this
    have ed : d = .int (k : Nat) := by
      rw [rngD_ints] at hd
      simp [hk] at hd
      exact hd.symm
    subst ed
    rw [Nat.zero_add]
    have rlen : ∀ i, i < n → (one.getD i []).length = n := fun i hi => by
      rw [getD_el (by omega : i < one.length)]
      exact (p1' _ (List.getElem_mem _)).len
    have last : ∀ {i : Nat} {x6 : Option M} {tw : List (List Nat)}, i < n → YQ (dIx (dIx (dPk 2) (dPk 7)) (dG (kPl oSub) [dPk 1, dLit (.int 1)])) [some D4.m, nM n, gM one, some (.lst ((rsD tw).map .fz)), tM F, nM k, x6, nM i] (.own (.fz (.int (pf one i (n - 1) : Nat)))) := fun {i x6 tw} hi => by
      have y := yq_sub (yq_pk (i := 1) (d := .int (n : Nat)) (env := [some D4.m, nM n, gM one, some (.lst ((rsD tw).map .fz)), tM F, nM k, x6, nM i]) rfl) (yq_lit (d := .int 1))
      have ey : ((n : Nat) : Int) - 1 = ((n - 1 : Nat) : Int) := by omega
      rw [ey] at y
      exact yq_ix (yq_ix (yq_pk (i := 2) rfl) (yq_pk (i := 7) rfl) (ix_gD (by omega))) y (ix_tupN (by rw [rlen i hi]; omega))
    have head : ∀ {i : Nat} {x6 : Option M} {tw : List (List Nat)}, i < n → YQ (dIx (dIx (dPk 2) (dPk 7)) (dLit (.int 0))) [some D4.m, nM n, gM one, some (.lst ((rsD tw).map .fz)), tM F, nM k, x6, nM i] (.own (.fz (.int (pf one i 0 : Nat)))) := fun {i x6 tw} hi =>
      yq_ix (i := ((0 : Nat) : Int)) (yq_ix (yq_pk (i := 2) rfl) (yq_pk (i := 7) rfl) (ix_gD (by omega))) yq_lit (ix_tupN (by rw [rlen i hi]; omega))
    have fl : ∀ (c : Nat → Bool), ((List.range n).filter c).length ≤ n := fun c => by
      have := List.length_filter_le c (List.range n)
      rwa [List.length_range] at this
    have lA := yq_lc (p := gNm 7) (src := dG kRng [dPk 1]) (t := dG (kPl oEq) [dIx (dIx (dPk 2) (dPk 7)) (dG (kPl oSub) [dPk 1, dLit (.int 1)]), dPk 5]) (f := dTk 7) (vs := [7]) (env := sE n one F ((List.range k).map (rowT one n)) (nM k) x6 D4) (sE n one F ((List.range k).map (rowT one n)) (nM k) x6 D4) (fun d => pA one n k (unI d)) M.fz (yq_rngN (n := n) (yq_pk (i := 1) rfl) (by omega)) (fun d hd => by
      obtain ⟨i, hi, rfl⟩ := rngD_mem hd
      exact ⟨[some D4.m, nM n, gM one, some (.lst ((rsD ((List.range k).map (rowT one n))).map .fz)), tM F, nM k, x6, nM i], rfl, yq_eqN (last hi) (yq_pk (i := 5) rfl) rfl, fun _ => yq_tk (i := 7) rfl, rfl⟩) rfl rfl rfl
    rw [filt_rng (pA one n k)] at lA
    have lB := yq_lc (p := gNm 7) (src := dG kRng [dPk 1]) (t := dIf (dG (kPl oNe) [dIx (dIx (dPk 2) (dPk 7)) (dG (kPl oSub) [dPk 1, dLit (.int 1)]), dPk 5]) (dG (kPl oNe) [dIx (dIx (dPk 2) (dPk 7)) (dLit (.int 0)), dPk 5]) (dLit (.bool false))) (f := dTk 7) (vs := [7]) (env := sE n one F ((List.range k).map (rowT one n)) (nM k) (lM ((List.range n).filter (pA one n k))) D4) (sE n one F ((List.range k).map (rowT one n)) (nM k) (lM ((List.range n).filter (pA one n k))) D4) (fun d => pB one n k (unI d)) M.fz (yq_rngN (n := n) (yq_pk (i := 1) rfl) (by omega)) (fun d hd => by
      obtain ⟨i, hi, rfl⟩ := rngD_mem hd
      refine ⟨[some D4.m, nM n, gM one, some (.lst ((rsD ((List.range k).map (rowT one n))).map .fz)), tM F, nM k, lM ((List.range n).filter (pA one n k)), nM i], rfl, ?_, fun _ => yq_tk (i := 7) rfl, rfl⟩
      exact yq_andT (yq_neN (c := !decide (pf one i (n - 1) = k)) (last hi) (yq_pk (i := 5) rfl) (by simp)) fun _ => yq_neN (c := !decide (pf one i 0 = k)) (head hi) (yq_pk (i := 5) rfl) (by simp)) rfl rfl rfl
    rw [filt_rng (pB one n k)] at lB
    have aB := yq_addLD (yq_pk (i := 6) (d := .list (natsD ((List.range n).filter (pA one n k)))) (env := sE n one F ((List.range k).map (rowT one n)) (nM k) (lM ((List.range n).filter (pA one n k))) D4) rfl) lB (by rw [natsD_len, natsD_len]; have := fl (pA one n k); have := fl (pB one n k); unfold SZ; omega)
    have eAB : natsD ((List.range n).filter (pA one n k)) ++ natsD ((List.range n).filter (pB one n k)) = natsD ((List.range n).filter (pA one n k) ++ (List.range n).filter (pB one n k)) := by simp [natsD]
    rw [eAB] at aB
    have lC := yq_lc (p := gNm 7) (src := dG kRng [dPk 1]) (t := dIf (dG (kPl oEq) [dIx (dIx (dPk 2) (dPk 7)) (dLit (.int 0)), dPk 5]) (dG (kPl oNe) [dIx (dIx (dPk 2) (dPk 7)) (dG (kPl oSub) [dPk 1, dLit (.int 1)]), dPk 5]) (dLit (.bool false))) (f := dTk 7) (vs := [7]) (env := sE n one F ((List.range k).map (rowT one n)) (nM k) (lM ((List.range n).filter (pA one n k) ++ (List.range n).filter (pB one n k))) D4) (sE n one F ((List.range k).map (rowT one n)) (nM k) (lM ((List.range n).filter (pA one n k) ++ (List.range n).filter (pB one n k))) D4) (fun d => pC one n k (unI d)) M.fz (yq_rngN (n := n) (yq_pk (i := 1) rfl) (by omega)) (fun d hd => by
      obtain ⟨i, hi, rfl⟩ := rngD_mem hd
      refine ⟨[some D4.m, nM n, gM one, some (.lst ((rsD ((List.range k).map (rowT one n))).map .fz)), tM F, nM k, lM ((List.range n).filter (pA one n k) ++ (List.range n).filter (pB one n k)), nM i], rfl, ?_, fun _ => yq_tk (i := 7) rfl, rfl⟩
      exact yq_andT (yq_eqN (c := decide (pf one i 0 = k)) (head hi) (yq_pk (i := 5) rfl) rfl) fun _ => yq_neN (c := !decide (pf one i (n - 1) = k)) (last hi) (yq_pk (i := 5) rfl) (by simp)) rfl rfl rfl
    rw [filt_rng (pC one n k)] at lC
    have aC : YQ (dG kAdd [dPk 6, dLc (gNm 7) (dG kRng [dPk 1]) (dIf (dG (kPl oEq) [dIx (dIx (dPk 2) (dPk 7)) (dLit (.int 0)), dPk 5]) (dG (kPl oNe) [dIx (dIx (dPk 2) (dPk 7)) (dG (kPl oSub) [dPk 1, dLit (.int 1)]), dPk 5]) (dLit (.bool false))) (dTk 7) [7]]) (sE n one F ((List.range k).map (rowT one n)) (nM k) (lM ((List.range n).filter (pA one n k) ++ (List.range n).filter (pB one n k))) D4) (.own (.lst ((natsD (rowT one n k)).map .fz))) := by
      have z := yq_addLx (yq_pk (i := 6) (d := .list (natsD ((List.range n).filter (pA one n k) ++ (List.range n).filter (pB one n k)))) (env := sE n one F ((List.range k).map (rowT one n)) (nM k) (lM ((List.range n).filter (pA one n k) ++ (List.range n).filter (pB one n k))) D4) rfl) lC (by rw [natsD_len, natsD_len, List.length_append]; have := fl (pA one n k); have := fl (pB one n k); have := fl (pC one n k); unfold SZ; omega)
      have eC : natsD ((List.range n).filter (pA one n k) ++ (List.range n).filter (pB one n k)) ++ natsD ((List.range n).filter (pC one n k)) = natsD (rowT one n k) := by
        unfold rowT
        simp [natsD]
      rw [eC] at z
      exact z
    refine ⟨sE n one F ((List.range k).map (rowT one n)) (nM k) x6 D4, sE n one F ((List.range (k + 1)).map (rowT one n)) (nM k) (lM ((List.range n).filter (pA one n k) ++ (List.range n).filter (pB one n k))) D4, rfl, .inl ?_, _, _, rfl⟩
    refine (out_seq (out_set (yq_fr lA (frz_lst _)) (by show 6 < 8; decide))).trans ?_
    refine (out_seq (out_set aB (by show 6 < 8; decide))).trans ?_
    refine (out_app (s := 3) (ms := (rsD ((List.range k).map (rowT one n))).map .fz) (d := .tuple (natsD (rowT one n k))) rfl (yq_tupOf (ds := natsD (rowT one n k)) aC (seqv_lst _)) (by rw [List.length_map, List.length_map, List.length_map, List.length_range]; unfold SZ; omega)).trans ?_
    rw [rsD_snoc]
    have : (List.range (k + 1)).map (rowT one n) = (List.range k).map (rowT one n) ++ [rowT one n k] := by rw [List.range_succ, List.map_append]; rfl
    rw [this]
    rfl) ⟨none, none, rfl⟩
  rw [rngD_len, Nat.zero_add] at h2
  subst h2
  refine ro_st ((out_for (yq_rngN (n := n) (yq_pk (i := 1) rfl) (by omega))).trans h1) ?_
  refine ro_st (env2 := [some D4.m, nM n, gM one, gM ((List.range n).map (rowT one n)), tM F, x5, x6, none]) (out_set (m := .fz (gD ((List.range n).map (rowT one n)))) (yq_tupOf (ds := rsD ((List.range n).map (rowT one n))) (yq_vw (i := 3) (ms := (rsD ((List.range n).map (rowT one n))).map .fz) rfl) (seqv_vw _)) (by show 3 < 8; decide)) ?_
  exact fin (D := D4) ok4 ⟨n1, n6, l1', by simp, p1', fun r hr => by
    obtain ⟨k, _, rfl⟩ := List.mem_map.mp hr
    exact rowT_perm one k⟩
end
end Q

set_option Elab.async false
set_option linter.all false
set_option maxRecDepth 100000
set_option maxHeartbeats 4000000
set_option exponentiation.threshold 1000
/-! Better, worse, middle couples. -/
namespace Q
open PySem PySem.Spec PyProof.Rows L2
/-! ### better and worse -/
section
variable {one two : List (List Nat)} {n : Nat} {A B N : List Nat}
theorem yq_isntD {f : Ev → Res} {env : Ev} {d : PyData} {b : Bool} (h : YQ f env (.own (.fz d))) (hb : b = !isNoD d) : YQ (dG (kIs true) [f, dLit .none]) env (.own (.fz (.bool b))) := yq_G (b := false) (ys_cons h (ys_cons yq_lit ys_nil)) (by
  subst hb
  cases d <;> rfl)
theorem rest_none (sd : Sides one two n) (h : Rest one two n A) : unr one two n A = none := (unr_none sd h.1).mpr h.2
/-- the two pairs of place and partner -/
theorem two_pairs {x2 x3 : List Nat} {i : Nat} (sd : Sides one two n) (hi : i < n) (h2 : IsP x2 n) (h3 : IsP x3 n) : YQ (dLc (gNm 5) (dIt (dTup [dFr (dIx (dPk 2) (dPk 4)), dFr (dIx (dPk 3) (dPk 4))])) (dLit (.bool true)) (dTup [dIdx (dIx (dPk 0) (dPk 4)) (dPk 5), dTk 5]) [5]) [gM one, gM two, tM x2, tM x3, nM i, none]
    (.own (.lst ((([((rk one i (x2.getD i 0) : Nat) : Int), ((x2.getD i 0 : Nat) : Int)] :: [[((rk one i (x3.getD i 0) : Nat) : Int), ((x3.getD i 0 : Nat) : Int)]]).map fun l : List Int => PyData.tuple (l.map .int)).map .fz))) := by
  have l1 := sd.l1
  have r1 := sd.r1 hi
  have lc := yq_lc0 (p := gNm 5) (src := dIt (dTup [dFr (dIx (dPk 2) (dPk 4)), dFr (dIx (dPk 3) (dPk 4))])) (f := dTup [dIdx (dIx (dPk 0) (dPk 4)) (dPk 5), dTk 5]) (vs := [5]) (env := [gM one, gM two, tM x2, tM x3, nM i, none]) [gM one, gM two, tM x2, tM x3, nM i, none] (fun d => .fz (.tuple [.int (rk one i (unI d) : Nat), .int (unI d : Nat)])) (ds := [.int (x2.getD i 0 : Nat), .int (x3.getD i 0 : Nat)])
    (yq_it (m := .fz (.tuple [.int (x2.getD i 0 : Nat), .int (x3.getD i 0 : Nat)])) (yq_Fn (ys_cons (yq_fr (m := .fz (.int (x2.getD i 0 : Nat))) (yq_ix (yq_pk (i := 2) rfl) (yq_pk (i := 4) rfl) (ix_tupN (by rw [h2.len]; exact hi))) rfl) (ys_cons (yq_fr (m := .fz (.int (x3.getD i 0 : Nat))) (yq_ix (yq_pk (i := 3) rfl) (yq_pk (i := 4) rfl) (ix_tupN (by rw [h3.len]; exact hi))) rfl) ys_nil)) rfl) rfl rfl) (fun d hd => by
      have : ∃ k : Nat, d = .int (k : Nat) ∧ k < n := by
        simp only [List.mem_cons, List.not_mem_nil, or_false] at hd
        rcases hd with rfl | rfl
        · exact ⟨_, rfl, h2.get_lt hi⟩
        · exact ⟨_, rfl, h3.get_lt hi⟩
      obtain ⟨k, rfl, hk⟩ := this
      refine ⟨[gM one, gM two, tM x2, tM x3, nM i, nM k], rfl, ?_, rfl⟩
      exact yq_Fn (ys_cons (yq_rk (rows := one) (i := i) (k := k) (yq_pk (i := 0) rfl) (yq_pk (i := 4) rfl) (yq_pk (i := 5) rfl) (by omega) (r1.mem.mpr hk)) (ys_cons (yq_tk (i := 5) rfl) ys_nil)) rfl) rfl rfl rfl
  exact lc
theorem min_two (sd : Sides one two n) {i : Nat} (hi : i < n) (h2 : IsP A n) (h3 : IsP B n) : PySem.W.minD (pairD ((rk one i (A.getD i 0) : Nat), (A.getD i 0 : Nat))) [pairD ((rk one i (B.getD i 0) : Nat), (B.getD i 0 : Nat))] = pairD ((rk one i ((betL one n A B).getD i 0) : Nat), ((betL one n A B).getD i 0 : Nat)) := by
  show (if PySem.W.dataLt (pairD ((rk one i (B.getD i 0) : Nat), (B.getD i 0 : Nat))) (pairD ((rk one i (A.getD i 0) : Nat), (A.getD i 0 : Nat))) = true then pairD ((rk one i (B.getD i 0) : Nat), (B.getD i 0 : Nat)) else pairD ((rk one i (A.getD i 0) : Nat), (A.getD i 0 : Nat))) = _
  rw [lt_pair, betL_get hi]
  by_cases c : rk one i (A.getD i 0) ≤ rk one i (B.getD i 0)
  · rw [if_pos c, if_neg]
    simp only [decide_eq_true_eq]
    rintro (h | ⟨h, h'⟩)
    · omega
    · have e : B.getD i 0 = A.getD i 0 := (sd.r1 hi).idx_inj (h3.get_lt hi) (h2.get_lt hi) (by have h : ((rk one i (B.getD i 0) : Nat) : Int) = (rk one i (A.getD i 0) : Nat) := h; show rk one i (B.getD i 0) = rk one i (A.getD i 0); omega)
      rw [e] at h'
      omega
  · rw [if_neg c, if_pos]
    exact decide_eq_true (.inl (by show ((rk one i (B.getD i 0) : Nat) : Int) < (rk one i (A.getD i 0) : Nat); omega))
theorem max_two (sd : Sides one two n) {i : Nat} (hi : i < n) (h2 : IsP A n) (h3 : IsP B n) : PySem.W.maxD (pairD ((rk one i (A.getD i 0) : Nat), (A.getD i 0 : Nat))) [pairD ((rk one i (B.getD i 0) : Nat), (B.getD i 0 : Nat))] = pairD ((rk one i ((worL one n A B).getD i 0) : Nat), ((worL one n A B).getD i 0 : Nat)) := by
  show (if PySem.W.dataLt (pairD ((rk one i (A.getD i 0) : Nat), (A.getD i 0 : Nat))) (pairD ((rk one i (B.getD i 0) : Nat), (B.getD i 0 : Nat))) = true then pairD ((rk one i (B.getD i 0) : Nat), (B.getD i 0 : Nat)) else pairD ((rk one i (A.getD i 0) : Nat), (A.getD i 0 : Nat))) = _
  rw [lt_pair, worL_get hi]
  by_cases c : rk one i (A.getD i 0) ≤ rk one i (B.getD i 0)
  · rw [if_pos c]
    by_cases e : rk one i (A.getD i 0) = rk one i (B.getD i 0)
    · have e2 : A.getD i 0 = B.getD i 0 := (sd.r1 hi).idx_inj (h2.get_lt hi) (h3.get_lt hi) e
      rw [e2]
      split <;> rfl
    · rw [if_pos]
      exact decide_eq_true (.inl (by show ((rk one i (A.getD i 0) : Nat) : Int) < (rk one i (B.getD i 0) : Nat); omega))
  · rw [if_neg c, if_neg]
    simp only [decide_eq_true_eq]
    rintro (h | ⟨h, _⟩)
    · have h : ((rk one i (A.getD i 0) : Nat) : Int) < (rk one i (B.getD i 0) : Nat) := h
      omega
    · have h : ((rk one i (A.getD i 0) : Nat) : Int) = (rk one i (B.getD i 0) : Nat) := h
      omega
theorem list_of (l : List Nat) (hl : l.length = n) : (rngD 0 n).map (fun d => (.fz (.int (l.getD (unI d) 0 : Nat)) : M)) = (natsD l).map .fz := by
  have eo : l = (List.range n).map fun i => l.getD i 0 := by
    apply List.ext_getElem
    · simp [hl]
    · intro i a1 a2
      simp only [List.getElem_map, List.getElem_range, getD_el a1]
  conv => rhs; rw [eo]
  rw [rngD_ints]
  unfold natsD
  rw [List.map_map, List.map_map, List.map_map]
  rfl
theorem better_eq (sd : Sides one two n) (hA : Rest one two n A) (hB : Rest one two n B) : outR (d_better_of (startE 6 [.fz (gD one), .fz (gD two), .fz (.tuple (natsD A)), .fz (.tuple (natsD B))])) = .ret (.fz (.tuple (natsD (betL one n A B)))) := by
  have e0 : startE 6 [.fz (gD one), .fz (gD two), .fz (.tuple (natsD A)), .fz (.tuple (natsD B))] = [gM one, gM two, tM A, tM B, none, none] := rfl
  rw [e0]
  unfold d_better_of
  have n6 := sd.n6
  have l1 := sd.l1
  refine Eq.trans (oex (yq_call3 (yq_pk (i := 0) rfl) (yq_pk (i := 1) rfl) (yq_pk (i := 2) rfl) (cp_ok sd hA.1))) ?_
  refine Eq.trans (oex (yq_call3 (yq_pk (i := 0) rfl) (yq_pk (i := 1) rfl) (yq_pk (i := 3) rfl) (cp_ok sd hB.1))) ?_
  refine Eq.trans (oskip (yq_orT (a := false) (b := false) (yq_isntD (yq_call3 (yq_pk (i := 0) rfl) (yq_pk (i := 1) rfl) (yq_pk (i := 2) rfl) (found_eq sd hA.1)) (by rw [rest_none sd hA]; rfl)) fun _ => yq_isntD (yq_call3 (yq_pk (i := 0) rfl) (yq_pk (i := 1) rfl) (yq_pk (i := 3) rfl) (found_eq sd hB.1)) (by rw [rest_none sd hB]; rfl))) ?_
  have lc := yq_lc0 (p := gNm 4) (src := dG kRng [dG (kLen) [dPk 0]]) (f := dIx (dG (kMinA) [dLc (gNm 5) (dIt (dTup [dFr (dIx (dPk 2) (dPk 4)), dFr (dIx (dPk 3) (dPk 4))])) (dLit (.bool true)) (dTup [dIdx (dIx (dPk 0) (dPk 4)) (dPk 5), dTk 5]) [5]]) (dLit (.int 1))) (vs := [4]) (env := [gM one, gM two, tM A, tM B, none, none]) [gM one, gM two, tM A, tM B, none, none] (fun d => .fz (.int ((betL one n A B).getD (unI d) 0 : Nat))) (yq_rngN (n := n) (by have z := yq_lenG (rn := one) (f := dPk 0) (env := [gM one, gM two, tM A, tM B, none, none]) (yq_pk (i := 0) rfl); rw [l1] at z; exact z) (by omega)) (fun d hd => by
    obtain ⟨i, hi, rfl⟩ := rngD_mem hd
    refine ⟨[gM one, gM two, tM A, tM B, nM i, none], rfl, ?_, rfl⟩
    exact yq_ix (i := 1) (yq_minT (t := [((rk one i (A.getD i 0) : Nat) : Int), ((A.getD i 0 : Nat) : Int)]) (ts := [[((rk one i (B.getD i 0) : Nat) : Int), ((B.getD i 0 : Nat) : Int)]]) (two_pairs sd hi hA.1 hB.1) (frz_lst (([((rk one i (A.getD i 0) : Nat) : Int), ((A.getD i 0 : Nat) : Int)] :: [[((rk one i (B.getD i 0) : Nat) : Int), ((B.getD i 0 : Nat) : Int)]]).map fun l : List Int => PyData.tuple (l.map .int))) (r := pairD ((rk one i ((betL one n A B).getD i 0) : Nat), ((betL one n A B).getD i 0 : Nat))) (min_two sd hi hA.1 hB.1)) yq_lit rfl) rfl rfl rfl
  rw [list_of _ betL_len] at lc
  exact oret (yq_tupOf (ds := natsD (betL one n A B)) lc (seqv_lst _))
theorem worse_eq (sd : Sides one two n) (hA : Rest one two n A) (hB : Rest one two n B) : outR (d_worse_of (startE 6 [.fz (gD one), .fz (gD two), .fz (.tuple (natsD A)), .fz (.tuple (natsD B))])) = .ret (.fz (.tuple (natsD (worL one n A B)))) := by
  have e0 : startE 6 [.fz (gD one), .fz (gD two), .fz (.tuple (natsD A)), .fz (.tuple (natsD B))] = [gM one, gM two, tM A, tM B, none, none] := rfl
  rw [e0]
  unfold d_worse_of
  have n6 := sd.n6
  have l1 := sd.l1
  refine Eq.trans (oex (yq_call3 (yq_pk (i := 0) rfl) (yq_pk (i := 1) rfl) (yq_pk (i := 2) rfl) (cp_ok sd hA.1))) ?_
  refine Eq.trans (oex (yq_call3 (yq_pk (i := 0) rfl) (yq_pk (i := 1) rfl) (yq_pk (i := 3) rfl) (cp_ok sd hB.1))) ?_
  refine Eq.trans (oskip (yq_orT (a := false) (b := false) (yq_isntD (yq_call3 (yq_pk (i := 0) rfl) (yq_pk (i := 1) rfl) (yq_pk (i := 2) rfl) (found_eq sd hA.1)) (by rw [rest_none sd hA]; rfl)) fun _ => yq_isntD (yq_call3 (yq_pk (i := 0) rfl) (yq_pk (i := 1) rfl) (yq_pk (i := 3) rfl) (found_eq sd hB.1)) (by rw [rest_none sd hB]; rfl))) ?_
  have lc := yq_lc0 (p := gNm 4) (src := dG kRng [dG (kLen) [dPk 0]]) (f := dIx (dG (kMaxA) [dLc (gNm 5) (dIt (dTup [dFr (dIx (dPk 2) (dPk 4)), dFr (dIx (dPk 3) (dPk 4))])) (dLit (.bool true)) (dTup [dIdx (dIx (dPk 0) (dPk 4)) (dPk 5), dTk 5]) [5]]) (dLit (.int 1))) (vs := [4]) (env := [gM one, gM two, tM A, tM B, none, none]) [gM one, gM two, tM A, tM B, none, none] (fun d => .fz (.int ((worL one n A B).getD (unI d) 0 : Nat))) (yq_rngN (n := n) (by have z := yq_lenG (rn := one) (f := dPk 0) (env := [gM one, gM two, tM A, tM B, none, none]) (yq_pk (i := 0) rfl); rw [l1] at z; exact z) (by omega)) (fun d hd => by
    obtain ⟨i, hi, rfl⟩ := rngD_mem hd
    refine ⟨[gM one, gM two, tM A, tM B, nM i, none], rfl, ?_, rfl⟩
    exact yq_ix (i := 1) (yq_maxT (t := [((rk one i (A.getD i 0) : Nat) : Int), ((A.getD i 0 : Nat) : Int)]) (ts := [[((rk one i (B.getD i 0) : Nat) : Int), ((B.getD i 0 : Nat) : Int)]]) (two_pairs sd hi hA.1 hB.1) (frz_lst (([((rk one i (A.getD i 0) : Nat) : Int), ((A.getD i 0 : Nat) : Int)] :: [[((rk one i (B.getD i 0) : Nat) : Int), ((B.getD i 0 : Nat) : Int)]]).map fun l : List Int => PyData.tuple (l.map .int))) (r := pairD ((rk one i ((worL one n A B).getD i 0) : Nat), ((worL one n A B).getD i 0 : Nat))) (max_two sd hi hA.1 hB.1)) yq_lit rfl) rfl rfl rfl
  rw [list_of _ worL_len] at lc
  exact oret (yq_tupOf (ds := natsD (worL one n A B)) lc (seqv_lst _))
/-! ### middle ones -/
theorem sortI_N (l : List Nat) : sortI (l.map fun x : Nat => (x : Int)) = (srtN l).map fun x : Nat => (x : Int) := by
  refine srt_uniq leI_anti ((srtB_perm leI _).trans ((srtN_perm l).map _).symm) (srtB_srt leI_tot leI_tr _) ?_
  rw [List.pairwise_map]
  refine (srtN_sorted l).imp fun h => ?_
  unfold leI
  exact decide_eq_true (by omega)
theorem sortP_N (g : Nat → Nat) (l : List Nat) : sortP (l.map fun r => (((r : Nat) : Int), ((g r : Nat) : Int))) = (srtN l).map fun r => (((r : Nat) : Int), ((g r : Nat) : Int)) := by
  refine srt_uniq leP_anti ((srtB_perm leP _).trans ((srtN_perm l).map _).symm) (srtB_srt leP_tot leP_tr _) ?_
  rw [List.pairwise_map]
  refine (srtN_sorted l).imp fun {a b} h => ?_
  rw [leP_iff]
  by_cases e : a = b
  · subst e
    exact .inr ⟨rfl, Int.le_refl _⟩
  · exact .inl (by show ((a : Nat) : Int) < (b : Nat); omega)
def rks (one : List (List Nat)) (rs : List (List Nat)) (i : Nat) : List Nat := rs.map fun Y => rk one i (Y.getD i 0)
theorem midL_get {rs : List (List Nat)} {k i : Nat} (hi : i < n) : (midL one n rs k).getD i 0 = pf one i ((srtN (rks one rs i)).getD k 0) := by simp [midL, rks, hi]
theorem midL_len {rs : List (List Nat)} {k : Nat} : (midL one n rs k).length = n := by simp [midL]
theorem own_ix {ds : List PyData} {k : Nat} (h : k < ds.length) : ixV (.own (.lst (ds.map .fz))) (k : Int) = some (.own (.fz (ds.getD k .none))) := by
  show (atI (ds.map M.fz) (k : Int)).map _ = _
  unfold atI
  rw [List.length_map, ixN_of h]
  simp [h]
theorem middle_eq (sd : Sides one two n) {rs : List (List Nat)} (hrs : outR (d_every_rest (startE 3 [.fz (gD one), .fz (gD two)])) = .ret (.fz (.list (rsD rs)))) (hp : ∀ Y ∈ rs, IsP Y n) {k : Nat} (hk : k < rs.length) (small : rs.length ≤ 50000) :
    outR (d_middle_rest (startE 7 [.fz (gD one), .fz (gD two), .fz (.int (k : Nat))])) = .ret (.fz (.tuple (natsD (midL one n rs k)))) := by
  have e0 : startE 7 [.fz (gD one), .fz (gD two), .fz (.int (k : Nat))] = [gM one, gM two, nM k, none, none, none, none] := rfl
  rw [e0]
  unfold d_middle_rest
  have n6 := sd.n6
  have l1 := sd.l1
  refine Eq.trans (oex (yq_call2 (yq_pk (i := 0) rfl) (yq_pk (i := 1) rfl) (cs_ok sd))) ?_
  refine Eq.trans (oset (m := .fz (.list (rsD rs))) (yq_call2 (yq_pk (i := 0) rfl) (yq_pk (i := 1) rfl) hrs) (by show 3 < 7; decide)) ?_
  have t := yq_orT (a := false) (b := false) (yq_not (c := true) (yq_tru (yq_isi (t := .int) (c := true) (yq_pk (i := 2) (d := .int (k : Nat)) (env := [gM one, gM two, nM k, rL rs, none, none, none]) rfl) rfl) rfl)) fun _ => yq_orT (a := false) (b := false) (yq_tru (yq_isi (t := .bool) (c := false) (yq_pk (i := 2) (d := .int (k : Nat)) rfl) rfl) rfl) fun _ => yq_not (c := true) (by
    have z := yq_chain (p1 := fun i j => decide (i ≤ j)) (p2 := fun i j => decide (i < j)) (f := dLit (.int 0)) (g := dPk 2) (h := dG (kLen) [dPk 3]) (env := [gM one, gM two, nM k, rL rs, none, none, none]) (i := 0) (j := (k : Nat)) (k := (rs.length : Nat)) yq_lit (yq_pk (i := 2) rfl) fun _ => yq_len (n := rs.length) (yq_pk (i := 3) (d := .list (rsD rs)) rfl) (by simp [lenV])
    have e : (decide ((0 : Int) ≤ (k : Nat)) && decide (((k : Nat) : Int) < (rs.length : Nat))) = true := by simp; omega
    rw [e] at z
    exact z)
  refine Eq.trans (oskip t) ?_
  refine Eq.trans (oset (m := .lst []) (yq_Fn ys_nil rfl) (by show 4 < 7; decide)) ?_
  obtain ⟨e2, h1, x5, h2⟩ := runF_ix (p := gNm 5) (b := (dEx (dApp 4 (dIx (dIx (dG (kSort) [dLc (gNm 6) (dIt (dTk 3)) (dLit (.bool true)) (dTup [dIdx (dIx (dPk 0) (dPk 5)) (dIx (dPk 6) (dPk 5)), dFr (dIx (dPk 6) (dPk 5))]) [6]]) (dPk 2)) (dLit (.int 1)))))) (fun j env => ∃ x5, env = [gM one, gM two, nM k, rL rs, oM ((List.range j).map fun i => (midL one n rs k).getD i 0), x5, none]) (ds := rngD 0 n) (k := 0) (env := [gM one, gM two, nM k, rL rs, oM [], none, none]) (fun i d hd env => by
    rintro ⟨x5, rfl⟩
    have hi : i < n := by
      have := (List.getElem?_eq_some_iff.mp hd).1
      rwa [rngD_len] at this
    have ed : d = .int (i : Nat) := by
      rw [rngD_ints] at hd
      simp [hi] at hd
      exact hd.symm
    subst ed
    rw [Nat.zero_add]
    have r1 := sd.r1 hi
    generalize hL : (List.range i).map (fun i => (midL one n rs k).getD i 0) = L
    have Ll : L.length = i := by rw [← hL]; simp
    have lc := yq_lc0 (p := gNm 6) (src := dIt (dTk 3)) (f := dTup [dIdx (dIx (dPk 0) (dPk 5)) (dIx (dPk 6) (dPk 5)), dFr (dIx (dPk 6) (dPk 5))]) (vs := [6]) (env := [gM one, gM two, nM k, rL rs, oM L, nM i, none]) [gM one, gM two, nM k, rL rs, oM L, nM i, none] (fun d => .fz (pairD ((rk one i ((unN d).getD i 0) : Nat), ((unN d).getD i 0 : Nat)))) (yq_it (m := .fz (.list (rsD rs))) (yq_tk (i := 3) rfl) rfl rfl) (fun d hd => by
      obtain ⟨Y, hY, rfl⟩ := List.mem_map.mp hd
      have pY := hp Y hY
      refine ⟨[gM one, gM two, nM k, rL rs, oM L, nM i, tM Y], rfl, ?_, rfl⟩
      rw [unN_nats]
      have y6 : YQ (dIx (dPk 6) (dPk 5)) [gM one, gM two, nM k, rL rs, oM L, nM i, tM Y] (.own (.fz (.int (Y.getD i 0 : Nat)))) := yq_ix (yq_pk (i := 6) rfl) (yq_pk (i := 5) rfl) (ix_tupN (by rw [pY.len]; exact hi))
      exact yq_Fn (ys_cons (yq_rk (rows := one) (i := i) (k := Y.getD i 0) (yq_pk (i := 0) rfl) (yq_pk (i := 5) rfl) y6 (by omega) (r1.mem.mpr (pY.get_lt hi))) (ys_cons (yq_fr y6 rfl) ys_nil)) rfl) rfl rfl rfl
    have ep : (rsD rs).map (fun d => (.fz (pairD ((rk one i ((unN d).getD i 0) : Nat), ((unN d).getD i 0 : Nat))) : M)) = (((rks one rs i).map fun r => (((r : Nat) : Int), ((pf one i r : Nat) : Int))).map pairD).map .fz := by
      unfold rks rsD
      rw [List.map_map, List.map_map, List.map_map, List.map_map]
      apply List.map_congr_left
      intro Y hY
      show M.fz (pairD ((rk one i ((unN (.tuple (natsD Y))).getD i 0) : Nat), ((unN (.tuple (natsD Y))).getD i 0 : Nat))) = M.fz (pairD ((rk one i (Y.getD i 0) : Nat), (pf one i (rk one i (Y.getD i 0)) : Nat)))
      rw [unN_nats]
      have := r1.get_idx ((hp Y hY).get_lt hi)
      rw [show pf one i (rk one i (Y.getD i 0)) = Y.getD i 0 from this]
    rw [ep] at lc
    have rl : (rks one rs i).length = rs.length := by simp [rks]
    have sl : (srtN (rks one rs i)).length = rs.length := by rw [(srtN_perm _).length_eq, rl]
    have srt : YQ (dG (kSort) [dLc (gNm 6) (dIt (dTk 3)) (dLit (.bool true)) (dTup [dIdx (dIx (dPk 0) (dPk 5)) (dIx (dPk 6) (dPk 5)), dFr (dIx (dPk 6) (dPk 5))]) [6]]) [gM one, gM two, nM k, rL rs, oM L, nM i, none] (.own (.lst (((srtN (rks one rs i)).map fun r => pairD (((r : Nat) : Int), ((pf one i r : Nat) : Int))).map .fz))) := by
      obtain ⟨q, ps, hq⟩ := List.exists_cons_of_ne_nil (l := (rks one rs i).map fun r => (((r : Nat) : Int), ((pf one i r : Nat) : Int))) (fun z => by
        have z2 : rs.length = 0 := by
          have := congrArg List.length z
          rwa [List.length_map, rl] at this
        omega)
      have lv1 : lv (.own (.lst ((((rks one rs i).map fun r => (((r : Nat) : Int), ((pf one i r : Nat) : Int))).map pairD).map .fz))) = some ((q :: ps).map pairD) := by
        rw [← hq]
        unfold lv
        exact leaves_fz _
      have z := yq_G (k := kSort) (b := true) (ys_cons lc ys_nil) (ksort_P lv1)
      rw [← hq, sortP_N (pf one i), List.map_map] at z
      rw [List.map_map]
      exact z
    have val : YQ (dIx (dIx (dG (kSort) [dLc (gNm 6) (dIt (dTk 3)) (dLit (.bool true)) (dTup [dIdx (dIx (dPk 0) (dPk 5)) (dIx (dPk 6) (dPk 5)), dFr (dIx (dPk 6) (dPk 5))]) [6]]) (dPk 2)) (dLit (.int 1))) [gM one, gM two, nM k, rL rs, oM L, nM i, none] (.own (.fz (.int ((midL one n rs k).getD i 0 : Nat)))) := by
      have ix1 := own_ix (ds := (srtN (rks one rs i)).map fun r => pairD (((r : Nat) : Int), ((pf one i r : Nat) : Int))) (k := k) (by rw [List.length_map]; omega)
      have eg : ((srtN (rks one rs i)).map fun r => pairD (((r : Nat) : Int), ((pf one i r : Nat) : Int))).getD k .none = pairD ((((srtN (rks one rs i)).getD k 0 : Nat) : Int), ((pf one i ((srtN (rks one rs i)).getD k 0) : Nat) : Int)) := by
        rw [getD_el (by rw [List.length_map]; omega), List.getElem_map, getD_el (by omega : k < (srtN (rks one rs i)).length)]
      rw [eg] at ix1
      rw [midL_get hi]
      exact yq_ix (i := 1) (yq_ix srt (yq_pk (i := 2) rfl) ix1) yq_lit rfl
    refine ⟨[gM one, gM two, nM k, rL rs, oM L, nM i, none], [gM one, gM two, nM k, rL rs, oM ((List.range (i + 1)).map fun i => (midL one n rs k).getD i 0), nM i, none], rfl, .inl ?_, _, rfl⟩
    refine (out_app (s := 4) (ms := (natsD L).map .fz) (d := .int ((midL one n rs k).getD i 0 : Nat)) rfl val (by rw [List.length_map, natsD_len]; unfold SZ; omega)).trans ?_
    rw [nats_snoc]
    have : (List.range (i + 1)).map (fun i => (midL one n rs k).getD i 0) = L ++ [(midL one n rs k).getD i 0] := by rw [List.range_succ, List.map_append, hL]; rfl
    rw [this]
    rfl) ⟨none, rfl⟩
  rw [rngD_len, Nat.zero_add] at h2
  subst h2
  have eo : (List.range n).map (fun i => (midL one n rs k).getD i 0) = midL one n rs k := by
    apply List.ext_getElem
    · simp [midL]
    · intro i a1 a2
      simp only [List.getElem_map, List.getElem_range, getD_el a2]
  rw [eo] at h1
  refine Eq.trans (congrArg outR (out_seq ((out_for (yq_rngN (n := n) (by have z := yq_lenG (rn := one) (f := dPk 0) (env := [gM one, gM two, nM k, rL rs, oM [], none, none]) (yq_pk (i := 0) rfl); rw [l1] at z; exact z) (by omega))).trans h1))) ?_
  exact oret (yq_tupOf (ds := natsD (midL one n rs k)) (yq_vw (i := 4) (ms := (natsD (midL one n rs k)).map .fz) rfl) (seqv_vw _))
/-! ### who raises -/
theorem bo_x1 {v w u u2 : PyData} (h : outR (d_check_pairs (startE 3 [.fz v, .fz w, .fz u])) = .exn mal) : outR (d_better_of (startE 6 [.fz v, .fz w, .fz u, .fz u2])) = .exn mal ∧ outR (d_worse_of (startE 6 [.fz v, .fz w, .fz u, .fz u2])) = .exn mal := by
  have e0 : startE 6 [.fz v, .fz w, .fz u, .fz u2] = [some (.fz v), some (.fz w), some (.fz u), some (.fz u2), none, none] := rfl
  rw [e0]
  unfold d_better_of d_worse_of
  exact ⟨oexx (xcall (y3 (yq_pk (i := 0) rfl) (yq_pk (i := 1) rfl) (yq_pk (i := 2) rfl)) rfl h), oexx (xcall (y3 (yq_pk (i := 0) rfl) (yq_pk (i := 1) rfl) (yq_pk (i := 2) rfl)) rfl h)⟩
theorem bo_x2 (sd : Sides one two n) (hN : IsP N n) {u : PyData} (h : outR (d_check_pairs (startE 3 [.fz (gD one), .fz (gD two), .fz u])) = .exn mal) : outR (d_better_of (startE 6 [.fz (gD one), .fz (gD two), .fz (.tuple (natsD N)), .fz u])) = .exn mal ∧ outR (d_worse_of (startE 6 [.fz (gD one), .fz (gD two), .fz (.tuple (natsD N)), .fz u])) = .exn mal := by
  have e0 : startE 6 [.fz (gD one), .fz (gD two), .fz (.tuple (natsD N)), .fz u] = [gM one, gM two, tM N, some (.fz u), none, none] := rfl
  rw [e0]
  unfold d_better_of d_worse_of
  refine ⟨Eq.trans (oex (yq_call3 (yq_pk (i := 0) rfl) (yq_pk (i := 1) rfl) (yq_pk (i := 2) rfl) (cp_ok sd hN))) ?_, Eq.trans (oex (yq_call3 (yq_pk (i := 0) rfl) (yq_pk (i := 1) rfl) (yq_pk (i := 2) rfl) (cp_ok sd hN))) ?_⟩
  · exact oexx (xcall (y3 (yq_pk (i := 0) rfl) (yq_pk (i := 1) rfl) (yq_pk (i := 3) rfl)) rfl h)
  · exact oexx (xcall (y3 (yq_pk (i := 0) rfl) (yq_pk (i := 1) rfl) (yq_pk (i := 3) rfl)) rfl h)
theorem ox {t : Ev → Res} {rest : Ev → Out} {env : Ev} (ht : YQ t env (.own (.fz (.bool true)))) : outR (dSeq (dIfS t (dRaise "Malformed") dNx) rest env) = .exn mal := by
  have r := (out_ifT (a := dRaise "Malformed") (b := dNx) ht rfl).trans rfl
  unfold dSeq
  rw [r]
  rfl
/-- couples that are not in rest -/
theorem bo_x3 (sd : Sides one two n) (hA : IsP A n) (hN : IsP N n) (h : unr one two n A ≠ none ∨ unr one two n N ≠ none) : outR (d_better_of (startE 6 [.fz (gD one), .fz (gD two), .fz (.tuple (natsD A)), .fz (.tuple (natsD N))])) = .exn mal ∧ outR (d_worse_of (startE 6 [.fz (gD one), .fz (gD two), .fz (.tuple (natsD A)), .fz (.tuple (natsD N))])) = .exn mal := by
  have e0 : startE 6 [.fz (gD one), .fz (gD two), .fz (.tuple (natsD A)), .fz (.tuple (natsD N))] = [gM one, gM two, tM A, tM N, none, none] := rfl
  rw [e0]
  unfold d_better_of d_worse_of
  have t : YQ (dIf (dG (kIs true) [dCall 5 d_found_pair [dPk 0, dPk 1, dPk 2], dLit .none]) (dLit (.bool true)) (dG (kIs true) [dCall 5 d_found_pair [dPk 0, dPk 1, dPk 3], dLit .none])) [gM one, gM two, tM A, tM N, none, none] (.own (.fz (.bool true))) := by
    have z := yq_orT (yq_isntD (yq_call3 (yq_pk (i := 0) (env := [gM one, gM two, tM A, tM N, none, none]) rfl) (yq_pk (i := 1) rfl) (yq_pk (i := 2) rfl) (found_eq sd hA)) rfl) fun _ => yq_isntD (yq_call3 (yq_pk (i := 0) rfl) (yq_pk (i := 1) rfl) (yq_pk (i := 3) rfl) (found_eq sd hN)) rfl
    have e : (!isNoD (unrD (unr one two n A)) || !isNoD (unrD (unr one two n N))) = true := by
      rcases h with h | h
      · cases ea : unr one two n A with
        | none => exact absurd ea h
        | some a => rfl
      · cases ea : unr one two n N with
        | none => exact absurd ea h
        | some a => simp [unrD, isNoD]
    rw [e] at z
    exact z
  refine ⟨Eq.trans (oex (yq_call3 (yq_pk (i := 0) rfl) (yq_pk (i := 1) rfl) (yq_pk (i := 2) rfl) (cp_ok sd hA))) (Eq.trans (oex (yq_call3 (yq_pk (i := 0) rfl) (yq_pk (i := 1) rfl) (yq_pk (i := 3) rfl) (cp_ok sd hN))) (ox t)), Eq.trans (oex (yq_call3 (yq_pk (i := 0) rfl) (yq_pk (i := 1) rfl) (yq_pk (i := 2) rfl) (cp_ok sd hA))) (Eq.trans (oex (yq_call3 (yq_pk (i := 0) rfl) (yq_pk (i := 1) rfl) (yq_pk (i := 3) rfl) (cp_ok sd hN))) (ox t))⟩
theorem mr_x1 {v w u : PyData} (h : outR (d_check_sides (startE 2 [.fz v, .fz w])) = .exn mal) : outR (d_middle_rest (startE 7 [.fz v, .fz w, .fz u])) = .exn mal := by
  have e0 : startE 7 [.fz v, .fz w, .fz u] = [some (.fz v), some (.fz w), some (.fz u), none, none, none, none] := rfl
  rw [e0]
  unfold d_middle_rest
  exact oexx (xcall (y2 (yq_pk (i := 0) rfl) (yq_pk (i := 1) rfl)) rfl h)
/-- a place that is none -/
def okPl (r : Nat) : PyData → Bool
  | .int i => decide (0 ≤ i) && decide (i < (r : Int))
  | _ => false
theorem mr_x2 (sd : Sides one two n) {rs : List (List Nat)} (hrs : outR (d_every_rest (startE 3 [.fz (gD one), .fz (gD two)])) = .ret (.fz (.list (rsD rs)))) {v : PyData} (hv : v = .none ∨ (∃ b, v = .bool b) ∨ (∃ s, v = .str s) ∨ ∃ i, v = .int i) (hb : okPl rs.length v = false) : outR (d_middle_rest (startE 7 [.fz (gD one), .fz (gD two), .fz v])) = .exn mal := by
  have e0 : startE 7 [.fz (gD one), .fz (gD two), .fz v] = [gM one, gM two, some (.fz v), none, none, none, none] := rfl
  rw [e0]
  unfold d_middle_rest
  refine Eq.trans (oex (yq_call2 (yq_pk (i := 0) rfl) (yq_pk (i := 1) rfl) (cs_ok sd))) ?_
  refine Eq.trans (oset (m := .fz (.list (rsD rs))) (yq_call2 (yq_pk (i := 0) rfl) (yq_pk (i := 1) rfl) hrs) (by show 3 < 7; decide)) ?_
  refine ox ?_
  have y2' : ∀ {v : PyData}, YQ (dPk 2) [gM one, gM two, some (.fz v), rL rs, none, none, none] (.own (.fz v)) := fun {v} => yq_pk (i := 2) rfl
  rcases hv with rfl | ⟨b, rfl⟩ | ⟨s, rfl⟩ | ⟨i, rfl⟩
  · exact yq_orT (a := true) (b := false) (yq_not (c := false) (yq_tru (yq_isi (t := .int) (c := false) y2' rfl) rfl)) fun z => by cases z
  · refine yq_orT (a := false) (b := true) (yq_not (c := true) (yq_tru (yq_isi (t := .int) (c := true) y2' rfl) rfl)) fun _ => ?_
    exact yq_orT (a := true) (b := false) (yq_tru (yq_isi (t := .bool) (c := true) y2' rfl) rfl) fun z => by cases z
  · exact yq_orT (a := true) (b := false) (yq_not (c := false) (yq_tru (yq_isi (t := .int) (c := false) y2' rfl) rfl)) fun z => by cases z
  · refine yq_orT (a := false) (b := true) (yq_not (c := true) (yq_tru (yq_isi (t := .int) (c := true) y2' rfl) rfl)) fun _ => ?_
    refine yq_orT (a := false) (b := true) (yq_tru (yq_isi (t := .bool) (c := false) y2' rfl) rfl) fun _ => ?_
    have z := yq_chain (p1 := fun i j => decide (i ≤ j)) (p2 := fun i j => decide (i < j)) (f := dLit (.int 0)) (g := dPk 2) (h := dG (kLen) [dPk 3]) (env := [gM one, gM two, some (.fz (.int i)), rL rs, none, none, none]) (i := 0) (j := i) (k := (rs.length : Nat)) yq_lit y2' fun _ => yq_len (n := rs.length) (yq_pk (i := 3) (d := .list (rsD rs)) rfl) (by simp [lenV])
    have hb : (decide (0 ≤ i) && decide (i < (rs.length : Int))) = false := hb
    rw [hb] at z
    exact yq_not (c := false) z
theorem y5 {a b c d f : Ev → Res} {env : Ev} {v w x y z : PyData} (h0 : YQ a env (.own (.fz v))) (h1 : YQ b env (.own (.fz w))) (h2 : YQ c env (.own (.fz x))) (h3 : YQ d env (.own (.fz y))) (h4 : YQ f env (.own (.fz z))) : YQs [a, b, c, d, f] env [.own (.fz v), .own (.fz w), .own (.fz x), .own (.fz y), .own (.fz z)] := ys_cons h0 (y4 h1 h2 h3 h4)
theorem malB {v w u u2 : PyData} {k : Nat} (hk : k < 3) (h0 : k = 0 → outR (d_better_of (startE 6 [.fz v, .fz w, .fz u, .fz u2])) = .exn mal) (h1 : k = 1 → outR (d_worse_of (startE 6 [.fz v, .fz w, .fz u, .fz u2])) = .exn mal) (h2 : k = 2 → outR (d_middle_rest (startE 7 [.fz v, .fz w, .fz u2])) = .exn mal) : outR (d__law_malformed (startE 5 [.fz (.int (k : Nat)), .fz v, .fz w, .fz u, .fz u2])) = .ret (.fz (.bool true)) := by
  have e0 : startE 5 [.fz (.int (k : Nat)), .fz v, .fz w, .fz u, .fz u2] = [nM k, some (.fz v), some (.fz w), some (.fz u), some (.fz u2)] := rfl
  rw [e0]
  unfold d__law_malformed
  refine try_x ?_
  have t : ∀ j : Nat, YQ (dG (kPl oEq) [dPk 0, dLit (.int (j : Nat))]) [nM k, some (.fz v), some (.fz w), some (.fz u), some (.fz u2)] (.own (.fz (.bool (decide (k = j))))) := fun j => yq_eqN (yq_pk (i := 0) rfl) yq_litN rfl
  have t0 := t 0
  have t1 := t 1
  have : k = 0 ∨ k = 1 ∨ k = 2 := by omega
  rcases this with rfl | rfl | rfl
  · refine Eq.trans (oifT t0 rfl) ?_
    exact oexl (xcall (y4 (yq_pk (i := 1) rfl) (yq_pk (i := 2) rfl) (yq_pk (i := 3) rfl) (yq_pk (i := 4) rfl)) rfl (h0 rfl))
  · refine Eq.trans (oifF t0 rfl) (Eq.trans (oifT t1 rfl) ?_)
    exact oexl (xcall (y4 (yq_pk (i := 1) rfl) (yq_pk (i := 2) rfl) (yq_pk (i := 3) rfl) (yq_pk (i := 4) rfl)) rfl (h1 rfl))
  · refine Eq.trans (oifF t0 rfl) (Eq.trans (oifF t1 rfl) ?_)
    exact oexl (xcall (y3 (yq_pk (i := 1) rfl) (yq_pk (i := 2) rfl) (yq_pk (i := 4) rfl)) rfl (h2 rfl))
end
end Q

set_option Elab.async false
set_option linter.all false
set_option maxRecDepth 100000
set_option maxHeartbeats 4000000
set_option exponentiation.threshold 1000
/-! The law. -/
namespace Q
open PySem PySem.Spec PyProof.Rows L2
/-! ### the law -/
section
variable {A : List Nat}
theorem eqvT (a b : List Nat) : PyData.eqv (.tuple (natsD a)) (.tuple (natsD b)) = decide (a = b) := by
  have h := eqv_ints (a.map fun x : Nat => (x : Int)) (b.map fun x : Nat => (x : Int))
  rw [← natsD_ints, ← natsD_ints] at h
  have e : PyData.eqv (.tuple (natsD a)) (.tuple (natsD b)) = PyData.eqv (.list (natsD a)) (.list (natsD b)) := by simp only [PyData.eqv]
  rw [e, h]
  apply decide_eq_decide.mpr
  constructor
  · intro z
    have : ∀ (a b : List Nat), (a.map fun x : Nat => (x : Int)) = b.map (fun x : Nat => (x : Int)) → a = b := by
      intro a
      induction a with
      | nil => intro b z; cases b with
        | nil => rfl
        | cons _ _ => cases z
      | cons x a ih => intro b z; cases b with
        | nil => cases z
        | cons y b =>
          rw [List.map_cons, List.map_cons] at z
          injection z with z1 z2
          rw [ih b z2, show x = y by omega]
    exact this a b z
  · rintro rfl; rfl
theorem isIn_mem {rs : List (List Nat)} (h : A ∈ rs) : isIn (.tuple (natsD A)) (rsD rs) = true := by
  unfold isIn
  rw [List.any_eq_true]
  exact ⟨.tuple (natsD A), List.mem_map.mpr ⟨A, h, rfl⟩, by rw [eqvT]; simp⟩
theorem yq_ninRows {f g : Ev → Res} {env : Ev} {rs : List (List Nat)} (h : YQ f env (.own (.fz (.tuple (natsD A))))) (h2 : YQ g env (.own (.fz (.list (rsD rs))))) (hm : A ∈ rs) : YQ (dG (kPl oNin) [f, g]) env (.own (.fz (.bool false))) := yq_p2 h h2 (by
  have s1 : SeqAt.shaped (.tuple (natsD A)) = true := sh_shaped (k := 1) (sh_nats (k := 0) A) (by decide)
  have s2 : SeqAt.shaped (.list (rsD rs)) = true := sh_shaped (k := 2) (sh_lst (k := 1) fun x hx => by
    obtain ⟨r, _, rfl⟩ := List.mem_map.mp hx
    exact sh_nats (k := 0) r) (by decide)
  have sc : (scalD (.tuple (natsD A)) && (rsD rs).all scalD) = false := rfl
  have : oInB [.tuple (natsD A), .list (rsD rs)] = some (isIn (.tuple (natsD A)) (rsD rs)) := by
    show (if (scalD (.tuple (natsD A)) && (rsD rs).all scalD) = true then some (isIn (.tuple (natsD A)) (rsD rs)) else if (SeqAt.shaped (.tuple (natsD A)) && SeqAt.shaped (.list (rsD rs))) = true then some (isIn (.tuple (natsD A)) (rsD rs)) else none) = _
    rw [sc, s1, s2]
    rfl
  unfold oNin
  rw [this, isIn_mem hm]
  rfl)
end
section
variable {one two : List (List Nat)} {n : Nat} {A N : List Nat}
theorem yq_inD {f g : Ev → Res} {env : Ev} {rs : List (List Nat)} {d : PyData} (h : YQ f env (.own (.fz d))) (h2 : YQ g env (.own (.fz (.list (rsD rs))))) (hne : rs ≠ []) (hs : Sh 1 d) : YQ (dG (kPl oIn) [f, g]) env (.own (.fz (.bool (isIn d (rsD rs))))) := yq_p2 h h2 (by
  have s1 : SeqAt.shaped d = true := sh_shaped (k := 1) hs (by decide)
  have s2 : SeqAt.shaped (.list (rsD rs)) = true := sh_shaped (k := 2) (sh_lst (k := 1) fun x hx => by
    obtain ⟨r, _, rfl⟩ := List.mem_map.mp hx
    exact sh_nats (k := 0) r) (by decide)
  have sc : (scalD d && (rsD rs).all scalD) = false := by
    cases rs with
    | nil => exact absurd rfl hne
    | cons r rs =>
      have : (rsD (r :: rs)).all scalD = false := rfl
      rw [this, Bool.and_false]
  have : oInB [d, .list (rsD rs)] = some (isIn d (rsD rs)) := by
    show (if (scalD d && (rsD rs).all scalD) = true then some (isIn d (rsD rs)) else if (SeqAt.shaped d && SeqAt.shaped (.list (rsD rs))) = true then some (isIn d (rsD rs)) else none) = _
    rw [sc, s1, s2]
    rfl
  unfold oIn
  rw [this]
  rfl)
/-- a value that cannot stand for couples in rest, at the first and at the second place -/
def Wb (one two : List (List Nat)) (N : List Nat) (w : PyData) : Prop :=
  (outR (d_better_of (startE 6 [.fz (gD one), .fz (gD two), .fz w, .fz (.tuple (natsD N))])) = .exn mal ∧ outR (d_worse_of (startE 6 [.fz (gD one), .fz (gD two), .fz w, .fz (.tuple (natsD N))])) = .exn mal) ∧
  outR (d_better_of (startE 6 [.fz (gD one), .fz (gD two), .fz (.tuple (natsD N)), .fz w])) = .exn mal ∧ outR (d_worse_of (startE 6 [.fz (gD one), .fz (gD two), .fz (.tuple (natsD N)), .fz w])) = .exn mal
theorem wb_no (sd : Sides one two n) (hN : IsP N n) {w : PyData} (h : outR (d_is_order (startE 3 [.fz w, .fz (.int (n : Nat))])) = .ret (.fz (.bool false))) : Wb one two N w := ⟨bo_x1 (cp_x2 sd h), bo_x2 sd hN (cp_x2 sd h)⟩
theorem wb_un (sd : Sides one two n) (hN : IsP N n) (hA : IsP A n) (h : unr one two n A ≠ none) : Wb one two N (.tuple (natsD A)) := ⟨bo_x3 sd hA hN (.inl h), bo_x3 sd hN hA (.inr h)⟩
end
abbrev wL (s x2 x3 x4 x5 x6 x7 x8 x9 x10 x11 x12 x13 x14 x15 : Option M) (D : Dr) : Ev := [s, some D.m, x2, x3, x4, x5, x6, x7, x8, x9, x10, x11, x12, x13, x14, x15, none]
theorem law_true0 (ns : List Int) : ∃ e, d_law (startE 17 [.fz (scriptD ns)]) = .ret (.fz (.bool true)) e := by
  obtain ⟨D0, ok0, hd⟩ := draw_den ns
  have key : RO 1 d_law (startE 17 [.fz (scriptD ns)]) (· = .fz (.bool true)) := by
    have e0 : startE 17 [.fz (scriptD ns)] = [some (.fz (scriptD ns)), none, none, none, none, none, none, none, none, none, none, none, none, none, none, none, none] := rfl
    rw [e0]
    unfold d_law
    have s1 : dSet 1 (dCall 3 d__law_draw [dPk 0]) [some (.fz (scriptD ns)), none, none, none, none, none, none, none, none, none, none, none, none, none, none, none, none] = .nx (wL (some (.fz (scriptD ns))) none none none none none none none none none none none none none none D0) :=
      out_set (yq_call (y1 (yq_pk rfl)) rfl rfl hd (fun z => by cases z)) (by show 1 < 17; decide)
    generalize some (M.fz (scriptD ns)) = sc at s1 ⊢
    refine ro_st s1 ?_
    refine do_set (e := wL sc none none none none none none none none none none none none none none) (P := fun mm => ∃ n : Nat, mm = .fz (.int (n : Nat)) ∧ 1 ≤ n ∧ n ≤ 5) ok0
      (dv_pick (ds := [.int 1, .int 2, .int 3, .int 3, .int 4, .int 4, .int 5]) (fun _ _ => ys_cons yq_lit (ys_cons yq_lit (ys_cons yq_lit (ys_cons yq_lit (ys_cons yq_lit (ys_cons yq_lit (ys_cons yq_lit ys_nil))))))) (tkL (s := 1) (t := 7) (fun _ => rfl) (fun _ _ => rfl) (dv_q fun _ _ => yq_lit) (by decide) (by decide)) fun d hd => by
        simp only [List.mem_cons, List.not_mem_nil, or_false] at hd
        rcases hd with rfl | rfl | rfl | rfl | rfl | rfl | rfl
        · exact ⟨1, rfl, by decide, by decide⟩
        · exact ⟨2, rfl, by decide, by decide⟩
        · exact ⟨3, rfl, by decide, by decide⟩
        · exact ⟨3, rfl, by decide, by decide⟩
        · exact ⟨4, rfl, by decide, by decide⟩
        · exact ⟨4, rfl, by decide, by decide⟩
        · exact ⟨5, rfl, by decide, by decide⟩) (fun _ => by show 2 < 17; decide) ?_
    rintro _ D1 ok1 ⟨n, rfl, n1, n5⟩
    have n6 : n ≤ 6 := by omega
    show RO 1 _ (wL sc (nM n) none none none none none none none none none none none none none D1) _
    have hdv : DV (dCallI 8 d__law_sides [.io 1, .v (dTk 2)]) (wL sc (nM n) none none none none none none none none none none none none none) fun x => ∃ m, x = .own m ∧ ∃ one two, Sides one two n ∧ m = .fz (.tuple [gD one, gD two]) :=
      dv_ioE (s := 1) (gs := [dTk 2]) rfl (fun _ => rfl) (fun _ _ => rfl) (dvs_is1 (dv_q fun _ _ => yq_tk (i := 2) rfl)) fun ms h D ok => by
        subst h
        exact sides_den n1 n6 ok
    refine do_asg (e := wL sc (nM n) none none none none none none none none none none none none none) (P := fun d => ∃ one two, Sides one two n ∧ d = .tuple [gD one, gD two]) (e2 := fun d D => match d with
      | .tuple [a, b] => wL sc (nM n) (some (.fz a)) (some (.fz b)) none none none none none none none none none none none D
      | _ => []) ok1 (hdv.imp fun x ⟨m, hx, one, two, sd, hm⟩ => ⟨m, .tuple [gD one, gD two], hx, by rw [hm]; rfl, one, two, sd, rfl⟩) ?_ ?_
    · rintro d D ⟨one, two, sd, rfl⟩
      rfl
    rintro _ D2 ok2 ⟨one, two, sd, rfl⟩
    show RO 1 _ (wL sc (nM n) (gM one) (gM two) none none none none none none none none none none none D2) _
    have l1 := sd.l1
    have l2 := sd.l2
    have hmem := fun N => rests_mem (N := N) sd
    have hne := rests_ne sd
    have smallR : (restsL one two n).length ≤ 50000 := Nat.le_trans (List.length_filter_le _ _) (perms_small n6 (Nat.le_refl n))
    have hev := every_eq sd
    refine ro_st (env2 := wL sc (nM n) (gM one) (gM two) (rL (restsL one two n)) none none none none none none none none none none D2) (out_set (yq_call2 (yq_pk (i := 3) rfl) (yq_pk (i := 4) rfl) (lrests_eq sd)) (by show 5 < 17; decide)) ?_
    generalize restsL one two n = rs at *
    have rp : ∀ Y ∈ rs, Rest one two n Y := fun Y hY => (hmem Y).mp hY
    have rlen := List.length_pos_iff.mpr hne
    obtain ⟨t1, v1, f1, hF⟩ := first_eq sd
    obtain ⟨t2, v2, f2, hS⟩ := second_eq sd
    have pF := out_perm v1 f1
    have sF := out_stable sd v1 f1
    have pS := invL_perm (out_perm v2 f2)
    have sS := invL_stable (one := one) (two := two) (out_perm v2 f2) (out_stable sd.swap v2 f2)
    have mF := (hmem _).mpr ⟨pF, sF⟩
    have mS := (hmem _).mpr ⟨pS, sS⟩
    have mid0 := mid_first sd mF pF fun N hN i hi => out_best sd v1 f1 (rp N hN).1 (rp N hN).2 hi
    have midE := mid_last sd mS pS fun N hN i hi => (second_facts sd v2 f2 (rp N hN).1 (rp N hN).2 hi).1
    generalize t1.out n = F at *
    generalize invL n (t2.out n) = S at *
    have tkn : ∀ {e : Dr → Ev} {g : Ev → Res} {t : Nat}, (∀ D, (e D)[1]? = some (some D.m)) → (∀ D D2, (e D).set 1 (some D2.m) = e D2) → DV g e (Is (.int (t : Nat))) → 1 ≤ t → t ≤ 50000 → DV (dCallI 3 d__law_take [.io 1, .v g]) e (IsI fun i => 0 ≤ i ∧ i < (t : Nat)) := fun a b c d h => dv_tk a b c (by omega) (lg_small (by omega) (by omega))
    have pickR : ∀ {e : Dr → Ev}, (∀ D, (e D)[1]? = some (some D.m)) → (∀ D D2, (e D).set 1 (some D2.m) = e D2) → (∀ D, (e D)[5]? = some (rL rs)) → DV (dFr (dIx (dPk 5) (dCallI 3 d__law_take [.io 1, .v (dG (kLen) [dPk 5])]))) e fun x => ∃ m, x = .own m ∧ ∃ A, m = .fz (.tuple (natsD A)) ∧ Rest one two n A := fun {e} a b c =>
      dv_pickL (ds := rsD rs) (fun D _ => yq_pk (c D)) (by
        have z := tkn (t := rs.length) a b (dv_q fun D _ => yq_len (n := rs.length) (yq_pk (d := .list (rsD rs)) (c D)) (by simp [lenV])) rlen smallR
        rw [List.length_map]
        exact z) fun d hd => by
          obtain ⟨A, hA, rfl⟩ := List.mem_map.mp hd
          exact ⟨A, rfl, rp A hA⟩
    refine do_set (e := wL sc (nM n) (gM one) (gM two) (rL rs) none none none none none none none none none none) ok2 (pickR (fun _ => rfl) (fun _ _ => rfl) (fun _ => rfl)) (fun _ => by show 6 < 17; decide) ?_
    rintro _ D3 ok3 ⟨A, rfl, hA⟩
    show RO 1 _ (wL sc (nM n) (gM one) (gM two) (rL rs) (tM A) none none none none none none none none none D3) _
    refine do_set (e := wL sc (nM n) (gM one) (gM two) (rL rs) (tM A) none none none none none none none none none) ok3 (pickR (fun _ => rfl) (fun _ _ => rfl) (fun _ => rfl)) (fun _ => by show 7 < 17; decide) ?_
    rintro _ D4 ok4 ⟨B, rfl, hB⟩
    refine ro_st (env2 := wL sc (nM n) (gM one) (gM two) (rL rs) (tM A) (tM B) (oM []) none none none none none none none D4) (out_set (m := .lst []) (yq_Fn ys_nil rfl) (by show 8 < 17; decide)) ?_
    refine ro_st (env2 := wL sc (nM n) (gM one) (gM two) (rL rs) (tM A) (tM B) (oM []) (oM []) none none none none none none D4) (out_set (m := .lst []) (yq_Fn ys_nil rfl) (by show 9 < 17; decide)) ?_
    have pbet := bet_perm sd hA.1 hB.1 hA.2 hB.2
    have pwor := wor_perm sd hA.1 hB.1 hA.2 hB.2
    have mbet := (hmem _).mpr ⟨pbet, bet_stable sd hA.1 hB.1 hA.2 hB.2⟩
    have mwor := (hmem _).mpr ⟨pwor, wor_stable sd hA.1 hB.1 hA.2 hB.2⟩
    have hbet := better_eq sd hA hB
    have hwor := worse_eq sd hA hB
    obtain ⟨e2, h1, o10, x11, h2⟩ := runF_ix (p := gNm 10) (b := (dSeq (dSet 11 (dFr (dG (kSort) [dLst [dIdx (dIx (dPk 3) (dPk 10)) (dIx (dPk 6) (dPk 10)), dIdx (dIx (dPk 3) (dPk 10)) (dIx (dPk 7) (dPk 10))]])))
    (dSeq (dEx (dApp 8 (dIx (dIx (dPk 3) (dPk 10)) (dIx (dPk 11) (dLit (.int 0))))))
    (dEx (dApp 9 (dIx (dIx (dPk 3) (dPk 10)) (dIx (dPk 11) (dLit (.int 1))))))))) (fun j env => ∃ o10 x11, env = wL sc (nM n) (gM one) (gM two) (rL rs) (tM A) (tM B) (oM ((List.range j).map fun i => (betL one n A B).getD i 0)) (oM ((List.range j).map fun i => (worL one n A B).getD i 0)) (fzO o10) x11 none none none none D4) (ds := rngD 0 n) (k := 0) (env := wL sc (nM n) (gM one) (gM two) (rL rs) (tM A) (tM B) (oM []) (oM []) none none none none none none D4) (fun i d hd env => by
      rintro ⟨o10, x11, rfl⟩
      have hi : i < n := by
        have := (List.getElem?_eq_some_iff.mp hd).1
        rwa [rngD_len] at this
      have ed : d = .int (i : Nat) := by
        rw [rngD_ints] at hd
        simp [hi] at hd
        exact hd.symm
      subst ed
      rw [Nat.zero_add]
      have r1 := sd.r1 hi
      have eb := r1.get_idx (pbet.get_lt hi)
      have ew := r1.get_idx (pwor.get_lt hi)
      have rb := bet_rk (one := one) (n := n) (A := A) (B := B) hi
      have rw_ := wor_rk (one := one) (n := n) (A := A) (B := B) hi
      have lb := r1.idx_lt (pbet.get_lt hi)
      have lw := r1.idx_lt (pwor.get_lt hi)
      have snocR : ∀ (l : List Nat), (List.range (i + 1)).map (fun i => l.getD i 0) = (List.range i).map (fun i => l.getD i 0) ++ [l.getD i 0] := fun l => by rw [List.range_succ, List.map_append]; rfl
      rw [snocR, snocR]
      generalize hL1 : (List.range i).map (fun i => (betL one n A B).getD i 0) = L1
      have Ll1 : L1.length = i := by rw [← hL1]; simp
      generalize hL2 : (List.range i).map (fun i => (worL one n A B).getD i 0) = L2
      have Ll2 : L2.length = i := by rw [← hL2]; simp
      have ya : ∀ {s : Nat} {X : List Nat} {o11 : Option M} {L : List Nat}, IsP X n → (wL sc (nM n) (gM one) (gM two) (rL rs) (tM A) (tM B) (oM L) (oM L2) (nM i) o11 none none none none D4)[s]? = some (tM X) → YQ (dIdx (dIx (dPk 3) (dPk 10)) (dIx (dPk s) (dPk 10))) (wL sc (nM n) (gM one) (gM two) (rL rs) (tM A) (tM B) (oM L) (oM L2) (nM i) o11 none none none none D4) (.own (.fz (.int (rk one i (X.getD i 0) : Nat)))) := fun {s X o11 L} pX hs => yq_rk (rows := one) (i := i) (k := X.getD i 0) (yq_pk (i := 3) rfl) (yq_pk (i := 10) rfl) (yq_ix (yq_pk hs) (yq_pk (i := 10) rfl) (ix_tupN (by rw [pX.len]; exact hi))) (by omega) (r1.mem.mpr (pX.get_lt hi))
      have s11 : dSet 11 (dFr (dG (kSort) [dLst [dIdx (dIx (dPk 3) (dPk 10)) (dIx (dPk 6) (dPk 10)), dIdx (dIx (dPk 3) (dPk 10)) (dIx (dPk 7) (dPk 10))]])) (wL sc (nM n) (gM one) (gM two) (rL rs) (tM A) (tM B) (oM L1) (oM L2) (nM i) x11 none none none none D4) = .nx (wL sc (nM n) (gM one) (gM two) (rL rs) (tM A) (tM B) (oM L1) (oM L2) (nM i) (lM [rk one i ((betL one n A B).getD i 0), rk one i ((worL one n A B).getD i 0)]) none none none none D4) := by
        have yl : YQ (dLst [dIdx (dIx (dPk 3) (dPk 10)) (dIx (dPk 6) (dPk 10)), dIdx (dIx (dPk 3) (dPk 10)) (dIx (dPk 7) (dPk 10))]) (wL sc (nM n) (gM one) (gM two) (rL rs) (tM A) (tM B) (oM L1) (oM L2) (nM i) x11 none none none none D4) (.own (.lst ((natsD [rk one i (A.getD i 0), rk one i (B.getD i 0)]).map .fz))) := yq_Fn (ys_cons (ya (s := 6) hA.1 rfl) (ys_cons (ya (s := 7) hB.1 rfl) ys_nil)) rfl
        have lv1 : lv (.own (.lst ((natsD [rk one i (A.getD i 0), rk one i (B.getD i 0)]).map M.fz))) = some (([rk one i (A.getD i 0), rk one i (B.getD i 0)].map fun x : Nat => (x : Int)).map .int) := by
          rw [← natsD_ints]
          unfold lv
          exact leaves_fz _
        have z := yq_G (k := kSort) (b := true) (ys_cons yl ys_nil) (ksort_I lv1)
        rw [sortI_N] at z
        have es : srtN [rk one i (A.getD i 0), rk one i (B.getD i 0)] = [rk one i ((betL one n A B).getD i 0), rk one i ((worL one n A B).getD i 0)] := by
          rw [rb, rw_]
          rfl
        rw [es, List.map_map] at z
        exact out_set (m := .fz (.list (natsD [rk one i ((betL one n A B).getD i 0), rk one i ((worL one n A B).getD i 0)]))) (yq_fr (m := .lst ((natsD [rk one i ((betL one n A B).getD i 0), rk one i ((worL one n A B).getD i 0)]).map .fz)) z (frz_lst _)) (by show 11 < 17; decide)
      have v8 : YQ (dIx (dIx (dPk 3) (dPk 10)) (dIx (dPk 11) (dLit (.int 0)))) (wL sc (nM n) (gM one) (gM two) (rL rs) (tM A) (tM B) (oM L1) (oM L2) (nM i) (lM [rk one i ((betL one n A B).getD i 0), rk one i ((worL one n A B).getD i 0)]) none none none none D4) (.own (.fz (.int ((betL one n A B).getD i 0 : Nat)))) := by
        have z := yq_ix (yq_ix (yq_pk (i := 3) (env := wL sc (nM n) (gM one) (gM two) (rL rs) (tM A) (tM B) (oM L1) (oM L2) (nM i) (lM [rk one i ((betL one n A B).getD i 0), rk one i ((worL one n A B).getD i 0)]) none none none none D4) rfl) (yq_pk (i := 10) rfl) (ix_gD (by omega))) (yq_ix (i := ((0 : Nat) : Int)) (yq_pk (i := 11) rfl) yq_lit (ix_lstN (l := [rk one i ((betL one n A B).getD i 0), rk one i ((worL one n A B).getD i 0)]) (i := 0) (by simp))) (ix_tupN (l := one.getD i []) (i := rk one i ((betL one n A B).getD i 0)) (by rw [r1.len]; exact lb))
        rw [show (one.getD i []).getD (rk one i ((betL one n A B).getD i 0)) 0 = (betL one n A B).getD i 0 from eb] at z
        exact z
      have v9 : ∀ {L : List Nat}, YQ (dIx (dIx (dPk 3) (dPk 10)) (dIx (dPk 11) (dLit (.int 1)))) (wL sc (nM n) (gM one) (gM two) (rL rs) (tM A) (tM B) (oM L) (oM L2) (nM i) (lM [rk one i ((betL one n A B).getD i 0), rk one i ((worL one n A B).getD i 0)]) none none none none D4) (.own (.fz (.int ((worL one n A B).getD i 0 : Nat)))) := fun {L} => by
        have z := yq_ix (yq_ix (yq_pk (i := 3) (env := wL sc (nM n) (gM one) (gM two) (rL rs) (tM A) (tM B) (oM L) (oM L2) (nM i) (lM [rk one i ((betL one n A B).getD i 0), rk one i ((worL one n A B).getD i 0)]) none none none none D4) rfl) (yq_pk (i := 10) rfl) (ix_gD (by omega))) (yq_ix (i := ((1 : Nat) : Int)) (yq_pk (i := 11) rfl) yq_lit (ix_lstN (l := [rk one i ((betL one n A B).getD i 0), rk one i ((worL one n A B).getD i 0)]) (i := 1) (by simp))) (ix_tupN (l := one.getD i []) (i := rk one i ((worL one n A B).getD i 0)) (by rw [r1.len]; exact lw))
        rw [show (one.getD i []).getD (rk one i ((worL one n A B).getD i 0)) 0 = (worL one n A B).getD i 0 from ew] at z
        exact z
      refine ⟨wL sc (nM n) (gM one) (gM two) (rL rs) (tM A) (tM B) (oM L1) (oM L2) (nM i) x11 none none none none D4, wL sc (nM n) (gM one) (gM two) (rL rs) (tM A) (tM B) (oM (L1 ++ [(betL one n A B).getD i 0])) (oM (L2 ++ [(worL one n A B).getD i 0])) (nM i) (lM [rk one i ((betL one n A B).getD i 0), rk one i ((worL one n A B).getD i 0)]) none none none none D4, rfl, .inl ?_, some (.int (i : Nat)), _, rfl⟩
      refine (out_seq s11).trans ?_
      refine (out_seq ((out_app (s := 8) (ms := (natsD L1).map .fz) (d := .int ((betL one n A B).getD i 0 : Nat)) rfl v8 (by rw [List.length_map, natsD_len, Ll1]; unfold SZ; omega)).trans (by rw [nats_snoc]))).trans ?_
      refine (out_app (s := 9) (ms := (natsD L2).map .fz) (d := .int ((worL one n A B).getD i 0 : Nat)) rfl v9 (by rw [List.length_map, natsD_len, Ll2]; unfold SZ; omega)).trans ?_
      rw [nats_snoc]
      rfl) ⟨none, none, rfl⟩
    rw [rngD_len, Nat.zero_add] at h2
    have eoF : ∀ l : List Nat, l.length = n → (List.range n).map (fun i => l.getD i 0) = l := fun l hl => by
      apply List.ext_getElem
      · simp [hl]
      · intro i a1 a2
        simp only [List.getElem_map, List.getElem_range, getD_el a2]
    rw [eoF _ betL_len, eoF _ worL_len] at h2
    subst h2
    refine ro_st ((out_for (yq_rngN (n := n) (yq_pk (i := 2) rfl) (by omega))).trans h1) ?_
    generalize betL one n A B = bt at *
    generalize worL one n A B = wr at *
    have tb : ∀ {o10 : Option PyData} {x11 x12 x13 x14 x15 : Option M} {D : Dr}, YQ (dG (kTupOf) [dPk 8]) (wL sc (nM n) (gM one) (gM two) (rL rs) (tM A) (tM B) (oM bt) (oM wr) (fzO o10) x11 x12 x13 x14 x15 D) (.own (.fz (.tuple (natsD bt)))) := fun {o10 x11 x12 x13 x14 x15 D} => yq_tupOf (ds := natsD bt) (yq_vw (i := 8) (ms := (natsD bt).map .fz) rfl) (seqv_vw _)
    have tw : ∀ {o10 : Option PyData} {x11 x12 x13 x14 x15 : Option M} {D : Dr}, YQ (dG (kTupOf) [dPk 9]) (wL sc (nM n) (gM one) (gM two) (rL rs) (tM A) (tM B) (oM bt) (oM wr) (fzO o10) x11 x12 x13 x14 x15 D) (.own (.fz (.tuple (natsD wr)))) := fun {o10 x11 x12 x13 x14 x15 D} => yq_tupOf (ds := natsD wr) (yq_vw (i := 9) (ms := (natsD wr).map .fz) rfl) (seqv_vw _)
    refine ro_skip (yq_orT (a := false) (b := false) (yq_ne_sh (yq_call (n := 6) (den := d_better_of) (y4 (yq_pk (i := 3) rfl) (yq_pk (i := 4) rfl) (yq_pk (i := 6) rfl) (yq_pk (i := 7) rfl)) rfl rfl hbet (fun z => by cases z)) tb (sh_nats (k := 0) bt) (by decide)) fun _ => yq_ne_sh (yq_call (n := 6) (den := d_worse_of) (y4 (yq_pk (i := 3) rfl) (yq_pk (i := 4) rfl) (yq_pk (i := 6) rfl) (yq_pk (i := 7) rfl)) rfl rfl hwor (fun z => by cases z)) tw (sh_nats (k := 0) wr) (by decide)) ?_
    refine ro_skip (yq_orT (a := false) (b := false) (yq_ninRows (A := bt) tb (yq_pk (i := 5) rfl) mbet) fun _ => yq_ninRows (A := wr) tw (yq_pk (i := 5) rfl) mwor) ?_
    have smallR' : rs.length ≤ 50000 := smallR
    obtain ⟨e2, h1, x12, x13, rfl⟩ := runF_inv (p := gNm 12) (b := (dSeq (dSet 13 (dG (kTupOf) [dLc (gNm 10) (dG kRng [dPk 2]) (dLit (.bool true)) (dIx (dIx (dPk 3) (dPk 10)) (dIx (dG (kSort) [dLc (gNm 16) (dIt (dTk 5)) (dLit (.bool true)) (dIdx (dIx (dPk 3) (dPk 10)) (dIx (dPk 16) (dPk 10))) [16]]) (dPk 12))) [10]]))
    (dIfS (dIf (dG (kPl oNe) [dCall 7 d_middle_rest [dPk 3, dPk 4, dPk 12], dPk 13]) (dLit (.bool true)) (dG (kPl oNin) [dPk 13, dPk 5])) (dRet (dLit (.bool false))) (dNx)))) (fun env => ∃ x12 x13, env = wL sc (nM n) (gM one) (gM two) (rL rs) (tM A) (tM B) (oM bt) (oM wr) (fzO o10) x11 x12 x13 none none D4) (ds := rngD 0 rs.length) (env := wL sc (nM n) (gM one) (gM two) (rL rs) (tM A) (tM B) (oM bt) (oM wr) (fzO o10) x11 none none none none D4) (fun d hd env => by
      rintro ⟨x12, x13, rfl⟩
      obtain ⟨k, hk, rfl⟩ := rngD_mem hd
      obtain ⟨T, hT, eT⟩ := midL_rest sd rp hk
      have lc := yq_lc0 (p := gNm 10) (src := dG kRng [dPk 2]) (f := dIx (dIx (dPk 3) (dPk 10)) (dIx (dG (kSort) [dLc (gNm 16) (dIt (dTk 5)) (dLit (.bool true)) (dIdx (dIx (dPk 3) (dPk 10)) (dIx (dPk 16) (dPk 10))) [16]]) (dPk 12))) (vs := [10]) (env := wL sc (nM n) (gM one) (gM two) (rL rs) (tM A) (tM B) (oM bt) (oM wr) (fzO o10) x11 (nM k) x13 none none D4) (wL sc (nM n) (gM one) (gM two) (rL rs) (tM A) (tM B) (oM bt) (oM wr) none x11 (nM k) x13 none none D4) (fun d => .fz (.int ((midL one n rs k).getD (unI d) 0 : Nat))) (yq_rngN (n := n) (yq_pk (i := 2) rfl) (by omega)) (fun d hd => by
        obtain ⟨i, hi, rfl⟩ := rngD_mem hd
        have r1 := sd.r1 hi
        refine ⟨wL sc (nM n) (gM one) (gM two) (rL rs) (tM A) (tM B) (oM bt) (oM wr) (nM i) x11 (nM k) x13 none none D4, rfl, ?_, rfl⟩
        have lc2 := yq_lc0 (p := gNm 16) (src := dIt (dTk 5)) (f := dIdx (dIx (dPk 3) (dPk 10)) (dIx (dPk 16) (dPk 10))) (vs := [16]) (env := wL sc (nM n) (gM one) (gM two) (rL rs) (tM A) (tM B) (oM bt) (oM wr) (nM i) x11 (nM k) x13 none none D4) (wL sc (nM n) (gM one) (gM two) (rL rs) (tM A) (tM B) (oM bt) (oM wr) (nM i) x11 (nM k) x13 none none D4) (fun d => .fz (.int (rk one i ((unN d).getD i 0) : Nat))) (yq_it (m := .fz (.list (rsD rs))) (yq_tk (i := 5) rfl) rfl rfl) (fun d hd => by
          obtain ⟨Y, hY, rfl⟩ := List.mem_map.mp hd
          have pY := (rp Y hY).1
          refine ⟨[sc, some D4.m, nM n, gM one, gM two, rL rs, tM A, tM B, oM bt, oM wr, nM i, x11, nM k, x13, none, none, tM Y], rfl, ?_, rfl⟩
          rw [unN_nats]
          exact yq_rk (rows := one) (i := i) (k := Y.getD i 0) (yq_pk (i := 3) rfl) (yq_pk (i := 10) rfl) (yq_ix (yq_pk (i := 16) rfl) (yq_pk (i := 10) rfl) (ix_tupN (by rw [pY.len]; exact hi))) (by omega) (r1.mem.mpr (pY.get_lt hi))) rfl rfl rfl
        have ep : (rsD rs).map (fun d => (.fz (.int (rk one i ((unN d).getD i 0) : Nat)) : M)) = (natsD (rks one rs i)).map .fz := by
          unfold rks rsD natsD
          rw [List.map_map, List.map_map, List.map_map]
          apply List.map_congr_left
          intro Y _
          show M.fz (.int (rk one i ((unN (.tuple (natsD Y))).getD i 0) : Nat)) = M.fz (.int (rk one i (Y.getD i 0) : Nat))
          rw [unN_nats]
        rw [ep] at lc2
        have lv1 : lv (.own (.lst ((natsD (rks one rs i)).map M.fz))) = some (((rks one rs i).map fun x : Nat => (x : Int)).map .int) := by
          rw [← natsD_ints]
          unfold lv
          exact leaves_fz _
        have z := yq_G (k := kSort) (b := true) (ys_cons lc2 ys_nil) (ksort_I lv1)
        rw [sortI_N, List.map_map] at z
        have sl : (srtN (rks one rs i)).length = rs.length := by rw [(srtN_perm _).length_eq]; simp [rks]
        have ix1 := own_ix (ds := natsD (srtN (rks one rs i))) (k := k) (by rw [natsD_len]; omega)
        have eg : (natsD (srtN (rks one rs i))).getD k .none = .int ((srtN (rks one rs i)).getD k 0 : Nat) := by
          rw [getD_el (by rw [natsD_len]; omega), getD_el (by omega : k < (srtN (rks one rs i)).length)]
          simp [natsD]
        rw [eg] at ix1
        have hlt : (srtN (rks one rs i)).getD k 0 < n := by
          have : (srtN (rks one rs i)).getD k 0 ∈ rks one rs i := by
            rw [← (srtN_perm (rks one rs i)).mem_iff, getD_el (by omega)]
            exact List.getElem_mem _
          obtain ⟨Y, hY, eY⟩ := List.mem_map.mp this
          rw [← eY]
          exact r1.idx_lt ((rp Y hY).1.get_lt hi)
        show YQ _ _ (.own (.fz (.int ((midL one n rs k).getD i 0 : Nat))))
        rw [midL_get hi]
        exact yq_ix (yq_ix (yq_pk (i := 3) rfl) (yq_pk (i := 10) rfl) (ix_gD (by omega))) (yq_ix (x := .own (.lst ((natsD (srtN (rks one rs i))).map .fz))) (by unfold natsD; rw [List.map_map]; exact z) (yq_pk (i := 12) rfl) ix1) (ix_tupN (by rw [r1.len]; exact hlt))) (by cases o10 <;> rfl) rfl rfl
      rw [list_of _ midL_len] at lc
      have s13 := out_set (i := 13) (yq_tupOf (ds := natsD (midL one n rs k)) lc (seqv_lst _)) (by show 13 < 17; decide)
      have mk := middle_eq sd hev (fun Y hY => (rp Y hY).1) hk smallR'
      have mm : midL one n rs k ∈ rs := by rw [eT]; exact (hmem T).mpr hT
      generalize midL one n rs k = md at *
      have tt := yq_orT (a := false) (b := false) (yq_ne_sh (yq_call3 (yq_pk (i := 3) (env := wL sc (nM n) (gM one) (gM two) (rL rs) (tM A) (tM B) (oM bt) (oM wr) (fzO o10) x11 (nM k) (tM md) none none D4) rfl) (yq_pk (i := 4) rfl) (yq_pk (i := 12) rfl) mk) (yq_pk (i := 13) rfl) (sh_nats (k := 0) md) (by decide)) fun _ => yq_ninRows (A := md) (yq_pk (i := 13) rfl) (yq_pk (i := 5) rfl) mm
      exact ⟨_, _, rfl, .inl ((out_seq s13).trans ((out_ifF tt rfl).trans rfl)), _, _, rfl⟩) ⟨none, none, rfl⟩
    refine ro_st ((out_for (by
      have z := yq_len (f := dPk 5) (env := wL sc (nM n) (gM one) (gM two) (rL rs) (tM A) (tM B) (oM bt) (oM wr) (fzO o10) x11 none none none none D4) (n := rs.length) (yq_pk (i := 5) (d := .list (rsD rs)) rfl) (by simp [lenV])
      exact yq_rng (n := (rs.length : Nat)) z (by omega) (by unfold SZ; omega))).trans h1) ?_
    have mk0 := middle_eq sd hev (fun Y hY => (rp Y hY).1) (k := 0) rlen smallR'
    have mkE := middle_eq sd hev (fun Y hY => (rp Y hY).1) (k := rs.length - 1) (by omega) smallR'
    rw [mid0] at mk0
    rw [midE] at mkE
    have len5 : ∀ {x14 x15 : Option M} {D : Dr}, YQ (dG (kLen) [dPk 5]) (wL sc (nM n) (gM one) (gM two) (rL rs) (tM A) (tM B) (oM bt) (oM wr) (fzO o10) x11 x12 x13 x14 x15 D) (.own (.fz (.int (rs.length : Nat)))) := fun {x14 x15 D} => yq_len (n := rs.length) (yq_pk (i := 5) (d := .list (rsD rs)) rfl) (by simp [lenV])
    refine ro_skip (yq_orT (a := false) (b := false) (yq_ne_sh (yq_call3 (yq_pk (i := 3) rfl) (yq_pk (i := 4) rfl) yq_lit mk0) (yq_call2 (yq_pk (i := 3) rfl) (yq_pk (i := 4) rfl) hF) (sh_nats (k := 0) F) (by decide)) fun _ => yq_ne_sh (yq_call3 (yq_pk (i := 3) rfl) (yq_pk (i := 4) rfl) (by
      have z := yq_sub (len5 (x14 := none) (x15 := none) (D := D4)) (yq_lit (d := .int 1))
      have e : ((rs.length : Nat) : Int) - 1 = ((rs.length - 1 : Nat) : Int) := by omega
      rw [e] at z
      exact z) mkE) (yq_call2 (yq_pk (i := 3) rfl) (yq_pk (i := 4) rfl) hS) (sh_nats (k := 0) S) (by decide)) ?_
    refine do_set (e := wL sc (nM n) (gM one) (gM two) (rL rs) (tM A) (tM B) (oM bt) (oM wr) (fzO o10) x11 x12 x13 none none) (P := fun mm => ∃ v, mm = .fz v ∧ outR (d_middle_rest (startE 7 [.fz (gD one), .fz (gD two), .fz v])) = .exn mal) ok4
      (dv_pick (ds := [.int (-1), .int (rs.length : Nat), .bool true, .none, .str "0"]) (fun D _ => ys_cons (yq_neg yq_lit) (ys_cons len5 (ys_cons yq_lit (ys_cons yq_lit (ys_cons yq_lit ys_nil))))) (tkL (s := 1) (t := 5) (fun _ => rfl) (fun _ _ => rfl) (dv_q fun _ _ => yq_lit) (by decide) (by decide)) fun d hd => by
        simp only [List.mem_cons, List.not_mem_nil, or_false] at hd
        rcases hd with rfl | rfl | rfl | rfl | rfl
        · exact ⟨_, rfl, mr_x2 sd hev (.inr (.inr (.inr ⟨_, rfl⟩))) rfl⟩
        · exact ⟨_, rfl, mr_x2 sd hev (.inr (.inr (.inr ⟨_, rfl⟩))) (by unfold okPl; simp)⟩
        · exact ⟨_, rfl, mr_x2 sd hev (.inr (.inl ⟨_, rfl⟩)) rfl⟩
        · exact ⟨_, rfl, mr_x2 sd hev (.inl rfl) rfl⟩
        · exact ⟨_, rfl, mr_x2 sd hev (.inr (.inr (.inl ⟨_, rfl⟩))) rfl⟩) (fun _ => by show 14 < 17; decide) ?_
    rintro _ D5 ok5 ⟨v, rfl, hv⟩
    show RO 1 _ (wL sc (nM n) (gM one) (gM two) (rL rs) (tM A) (tM B) (oM bt) (oM wr) (fzO o10) x11 x12 x13 (some (.fz v)) none D5) _
    have cutv : YQ (dF Ql.n (kSl1 true) [dPk 4, dLit (.int 1)]) (wL sc (nM n) (gM one) (gM two) (rL rs) (tM A) (tM B) (oM bt) (oM wr) (fzO o10) x11 x12 x13 (some (.fz v)) none D5) (.own (.fz (.tuple ((rsD two).drop 1)))) := by
      refine yq_Fn (ys_cons (yq_pk (i := 4) (d := gD two) rfl) (ys_cons yq_lit ys_nil)) ?_
      show some (Val.own (.fz (.tuple (cutD (rsD two) (some ((1 : Nat) : Int)) none)))) = _
      rw [cut_lo (by rw [gD_len, l2]; exact n1)]
    have csx := cs_x2 (w := .tuple ((rsD two).drop 1)) (ords_yes n1 n6 l1 sd.p1) (ords_cut n1 n6 l2 sd.p2)
    refine ro_skip (yq_orT (a := false) (b := false) (yq_not (c := true) (yq_tru (yq_call (n := 5) (den := d__law_malformed) (y5 yq_lit (yq_pk (i := 3) rfl) (yq_pk (i := 4) rfl) (yq_Fn ys_nil rfl) (yq_pk (i := 14) rfl)) rfl rfl (malB (k := 2) (by decide) (fun z => by cases z) (fun z => by cases z) fun _ => hv) (fun z => by cases z)) rfl)) fun _ => yq_not (c := true) (yq_tru (yq_call (n := 5) (den := d__law_malformed) (y5 yq_lit (yq_pk (i := 3) rfl) cutv (yq_Fn ys_nil rfl) yq_lit) rfl rfl (malB (k := 2) (by decide) (fun z => by cases z) (fun z => by cases z) fun _ => mr_x1 csx) (fun z => by cases z)) rfl)) ?_
    have al := hA.1.len
    refine do_set (e := wL sc (nM n) (gM one) (gM two) (rL rs) (tM A) (tM B) (oM bt) (oM wr) (fzO o10) x11 x12 x13 (some (.fz v)) none) (P := fun mm => ∃ w, mm = .fz w ∧ Sh 1 w ∧ (isIn w (rsD rs) = false → Wb one two A w)) ok5
      (dv_fr (dv_F (dvs_cons (P := fun m => ∃ B : List Nat, IsP B n ∧ m = .lst [.fz (.tuple (natsD B)), .fz .none, .fz (.tuple (List.replicate (n + 1) (.int 0))), .fz (.list (natsD A))]) (dv_F (dvs_cons (P := fun m => ∃ B : List Nat, B.Perm (List.range n) ∧ m = .fz (.tuple (natsD B))) (dv_ioE (s := 1) (gs := [dTk 2]) rfl (fun _ => rfl) (fun _ _ => rfl) (dvs_is1 (dv_q fun _ _ => yq_tk (i := 2) rfl)) fun ms h D ok => by
            subst h
            exact order_den n1 n6 ok) (dvs_is (dv_q fun _ _ => yq_lit) (dvs_is (dv_q fun D _ => yq_fr (yq_G (b := true) (ys_cons (yq_Fn (y := .own (.fz (.tuple [.int 0]))) (ys_cons yq_lit ys_nil) rfl) (ys_cons (yq_addN (a := n) (b := 1) (yq_pk (i := 2) rfl) yq_litN) ys_nil)) (kmulA_t (k := n + 1) (by omega) (by omega))) rfl) (dvs_is1 (dv_q fun D _ => yq_fr (m := .lst ((natsD A).map .fz)) (yq_G (b := true) (ys_cons (yq_pk (i := 6) (d := .tuple (natsD A)) rfl) ys_nil) rfl) (frz_lst _)))))) fun ms h => by
          obtain ⟨m1, r1, e1, ⟨B, hB, e2⟩, e3⟩ := h
          subst e1 e2 e3
          exact ⟨_, rfl, _, rfl, B, hB, rfl⟩) (dvs_cons (tkL (s := 1) (t := 4) (fun _ => rfl) (fun _ _ => rfl) (dv_q fun _ _ => yq_lit) (by decide) (by decide)) dvs_nil)) fun ms h => by
        obtain ⟨m1, r1, e1, ⟨B, hB, e2⟩, m2, r2, e3, ⟨j, e4, j0, j2⟩, e5⟩ := h
        subst e1 e2 e3 e4 e5
        have : j = 0 ∨ j = 1 ∨ j = 2 ∨ j = 3 := by omega
        rcases this with rfl | rfl | rfl | rfl
        · refine ⟨.own (.fz (.tuple (natsD B))), rfl, _, _, rfl, rfl, _, rfl, _, rfl, sh_nats (k := 0) B, fun hin => wb_un sd hA.1 hB fun hu => ?_⟩
          have := isIn_mem ((hmem B).mpr ⟨hB, (unr_none sd hB).mp hu⟩)
          rw [this] at hin
          cases hin
        · exact ⟨.own (.fz .none), rfl, _, _, rfl, rfl, _, rfl, _, rfl, sh_none, fun _ => wb_no sd hA.1 (ord_a rfl rfl)⟩
        · refine ⟨.own (.fz (.tuple (List.replicate (n + 1) (.int 0)))), rfl, _, _, rfl, rfl, _, rfl, _, rfl, sh_tup (k := 0) fun x hx => by rw [List.eq_of_mem_replicate hx]; exact sh_int, fun _ => wb_no sd hA.1 ?_⟩
          have e : List.replicate (n + 1) (PyData.int 0) = (List.replicate (n + 1) (0 : Int)).map .int := by rw [List.map_replicate]
          rw [e]
          exact ord_no (by omega) fun h => by simp at h
        · exact ⟨.own (.fz (.list (natsD A))), rfl, _, _, rfl, rfl, _, rfl, _, rfl, sh_natsL A, fun _ => wb_no sd hA.1 (ord_a (noDict_lst (nd_nats A)) rfl)⟩)) (fun _ => by show 15 < 17; decide) ?_
    rintro _ D6 ok6 ⟨w, rfl, hsw, hw⟩
    show RO 1 _ (wL sc (nM n) (gM one) (gM two) (rL rs) (tM A) (tM B) (oM bt) (oM wr) (fzO o10) x11 x12 x13 (some (.fz v)) (some (.fz w)) D6) _
    have tin := yq_inD (rs := rs) (d := w) (f := dPk 15) (g := dPk 5) (env := wL sc (nM n) (gM one) (gM two) (rL rs) (tM A) (tM B) (oM bt) (oM wr) (fzO o10) x11 x12 x13 (some (.fz v)) (some (.fz w)) D6) (yq_pk (i := 15) rfl) (yq_pk (i := 5) rfl) hne hsw
    cases hi : isIn w (rsD rs) with
    | true =>
      rw [hi] at tin
      exact ⟨_, D6, _, ok6, rfl, out_seq_ret ((out_ifT tin rfl).trans (dret_of yq_lit)), rfl⟩
    | false =>
      rw [hi] at tin
      obtain ⟨⟨b1, b2⟩, b3, b4⟩ := hw hi
      refine ro_skip tin ?_
      refine ro_skip (yq_orT (a := false) (b := false) (yq_not (c := true) (yq_tru (yq_call (n := 5) (den := d__law_malformed) (y5 yq_lit (yq_pk (i := 3) rfl) (yq_pk (i := 4) rfl) (yq_pk (i := 15) rfl) (yq_pk (i := 6) rfl)) rfl rfl (malB (k := 0) (by decide) (fun _ => b1) (fun z => by cases z) (fun z => by cases z)) (fun z => by cases z)) rfl)) fun _ => yq_not (c := true) (yq_tru (yq_call (n := 5) (den := d__law_malformed) (y5 yq_lit (yq_pk (i := 3) rfl) (yq_pk (i := 4) rfl) (yq_pk (i := 6) rfl) (yq_pk (i := 15) rfl)) rfl rfl (malB (k := 0) (by decide) (fun _ => b3) (fun z => by cases z) (fun z => by cases z)) (fun z => by cases z)) rfl)) ?_
      refine do_ret (e := wL sc (nM n) (gM one) (gM two) (rL rs) (tM A) (tM B) (oM bt) (oM wr) (fzO o10) x11 x12 x13 (some (.fz v)) (some (.fz w))) ok6 (dv_own (m := .fz (.bool true)) (fun D _ => ?_) rfl) fun _ => rfl
      exact yq_and (a := true) (b := true) (yq_call (n := 5) (den := d__law_malformed) (y5 yq_lit (yq_pk (i := 3) rfl) (yq_pk (i := 4) rfl) (yq_pk (i := 15) rfl) (yq_pk (i := 6) rfl)) rfl rfl (malB (k := 1) (by decide) (fun z => by cases z) (fun _ => b2) (fun z => by cases z)) (fun z => by cases z)) fun _ => yq_call (n := 5) (den := d__law_malformed) (y5 yq_lit (yq_pk (i := 3) rfl) (yq_pk (i := 4) rfl) (yq_pk (i := 6) rfl) (yq_pk (i := 15) rfl)) rfl rfl (malB (k := 1) (by decide) (fun z => by cases z) (fun _ => b4) (fun z => by cases z)) (fun z => by cases z)
  obtain ⟨mm, D2, e2, _, rfl, h, _⟩ := key
  exact ⟨e2, h⟩
end Q

set_option Elab.async false
set_option linter.all false
set_option maxRecDepth 100000
set_option maxHeartbeats 0
namespace Q
open PySem PySem.Spec PyProof.Rows L2
theorem law_true (ns : List Int) (hl : ns.length ≤ 63) (hb : ∀ z ∈ ns, Builtin.Int.intBits z ≤ 1048576) : ∃ e, d_law (startE N_law.length [.fz (scriptD ns)]) = .ret (.fz (.bool true)) e := law_true0 ns
end Q
namespace Q
open PySem PySem.Spec PyProof.Rows L2
abbrev RR : PySem.W.OpenRow := PySem.W.OpenLaw.row PySem.Challenge.rw_fairloaves_k45_better_worse_and_middle_c
def exB (K : PySem.W.Frag) : Bool := noInts K && consB K consts
abbrev hkQ : PySem.W.Hook := He.hookX 4 facts fns [] [] exB
def obQ (s : PySem.W.SharedT) : He.AlX := He.obsX 4 facts fns [] [] exB (HandSHeadRun.getT s)
theorem obQ_eq (s : PySem.W.SharedT) : obQ s = hkQ.obs s.abs := He.obsX_eq (HandSHeadRun.getT_eq s)
def loose0 : List Str := ["Fault", "Malformed", "is_whole", "MOST_PEOPLE", "is_order", "is_orders", "turns_of", "check_sides", "courted", "first_best", "second_best", "found_pair", "check_pairs", "every_rest", "better_of", "worse_of", "middle_rest", "_law_draw", "_law_take", "_law_perms", "_law_order", "_law_unrest", "_law_rests", "_law_sides"]
def loose1 : List Str := ["_law_malformed"]
abbrev looseQ : List Str := loose0 ++ loose1
theorem runQ (w : World) : HandSHeadRun.RunEq RR (PySem.W.view RR.prog [30]) hkQ obQ 4000 looseQ w := by
  intro os
  kernel_rfl
end Q
open PySem PySem.W PySem.Calls PyProof.Rows
theorem PySem.Challenge.cw_fairloaves_k45_better_worse_and_middle_c_holds : PySem.Challenge.rw_fairloaves_k45_better_worse_and_middle_c.Holds := by
  w_on; o_law
  refine HandSHeadRun.head_any (r := OpenLaw.row PySem.Challenge.rw_fairloaves_k45_better_worse_and_middle_c) (q := view (OpenLaw.row PySem.Challenge.rw_fairloaves_k45_better_worse_and_middle_c).prog [30]) (H := Q.hkQ) (ob := Q.obQ) (M := 4000) (loose := Q.looseQ) (d := HandSHeadRun.topDef (OpenLaw.row PySem.Challenge.rw_fairloaves_k45_better_worse_and_middle_c).prog 30) (kwd := []) Q.obQ_eq
    (by kernel_rfl) (fun s => by kernel_rfl) Q.runQ (by kernel_rfl) (by kernel_rfl) (by kernel_rfl) (by rfl) (by first | assumption | decide +kernel) (by decide +kernel) ⟨rfl, rfl, rfl, rfl, rfl, by decide +kernel⟩ ?hw ?hc
  case hw => w_witness2
  case hc =>
    refine Q.walk_Q (l := PySem.Challenge.rw_fairloaves_k45_better_worse_and_middle_c) (n := 63) (k := Q.LV) (x := "script") rfl (by decide) (by kernel_rfl) ⟨rfl, by decide, by decide⟩ fun w mg fa h Y G hmg0 => ?_
    have hmg : mg ("law" : PySem.Str) = some (.ref fa) := by
      have e : (HandSHeadRun.topDef (OpenLaw.row PySem.Challenge.rw_fairloaves_k45_better_worse_and_middle_c).prog 30).name = ("law" : PySem.Str) := by kernel_rfl
      rw [← e]
      exact hmg0
    exact Q.law_F (l := PySem.Challenge.rw_fairloaves_k45_better_worse_and_middle_c) (cs := Q.consts) Y G hmg (fun K z => ⟨(Bool.and_eq_true_iff.mp z).1, (Bool.and_eq_true_iff.mp z).2⟩) (fun K KX c cc base => Q.f_law KX G c cc) Q.law_true

