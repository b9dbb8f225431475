import PyProof.Rows.All
import HandS.ForMost
import HandS.TupAny
import HandS.TupMul
import HandS.Exc
import HandS.ExcOwn
import HandS.TryOnly
import HandS.TryMany
import HandS.CallSlots
import HandS.WordsExc
import PyProof.Rows.SeqMore
import HandS.Wide
import HandS.TupLe
import HandS.Deep
import HandS.Style
import HandS.Flow
import HandS.IsInst
import HandS.Conv
import HandS.Zip
import HandS.Walk
import HandS.Defaults
import HandS.HeadHook4
import HandS.HeadEnd
import KE.GoesEnum
import KE.GoesMore
import HandS.EndBits
import HandS.SetFor
import KE.KTupSum
import HandS.SortOrd
import HandS.SortInts
import KE.DataMinMax
import KE.DataCmp
import HandS.Dict
import HandS.Strs
import PySem.Challenge.RW_fairloaves_k10_whole_turns
import KE.KStateDown
import Lean
import HandS.Head0
import HandS.Head1
import HandS.Head2
set_option Elab.async false
set_option linter.all false
set_option maxRecDepth 100000
set_option maxHeartbeats 4000000
/-! New tuples, known to the object: they have no dict. -/
namespace Q
open PySem PySem.Spec PyProof.Rows L2
/-- a tuple of which the object is known -/
abbrev TF (o : Obj) (xs : List V) : HO := .frz o (.tup xs)
/-- the sequel at a new tuple -/
abbrev NewT (H : Hp) (xs : List V) (Q : VK) : Prop := ∀ p o, H p = none → o.dict = none → Q (.ref p) (upd H p (TF o xs))
section
variable {X : Cx} {es : List Expr} {t : TA} {pos : Pos}
theorem tf_ok {P : Program} {w : World} {H : Hp} {hh : Heap} {xs : List V} {jts : List Value} (r : Vals xs jts) (z : xs.length ≤ sizeLine) : ObjOk P w H (hh.push { cls := .type "tuple", data := .seq jts.toArray }) hh.objs.size (TF { cls := .type "tuple", data := .seq jts.toArray } xs) :=
  ⟨Heap.get?_push_size _ rfl, z, jts, r, IsTup.new _ _⟩
def tTupX (t : TA) : TE := fun σ H Q => t σ H fun xs H1 => xs.length ≤ sizeLine ∧ NewT H1 xs Q
theorem pe_tupX {x1} (h : PA X es t) : PE X (.Tuple es x1 pos) (tTupX t) := ⟨fun pins st σ HH QQ Inn hq => by
  refine wpAny_Tuple_spliced (thn (h.run pos pins st σ HH _ Inn hq) fun us s1 ⟨xs, H1, I1, r, z, q⟩ => ⟨by rw [← r.length]; exact z, ?_⟩)
  have fresh := I1.hok.fresh (Nat.le_refl _)
  have ok := I1.laid (t' := s1.toks) (fun b u e => Heap.get?_push_of_some _ e) (Nat.le_refl _) (tf_ok r z)
  exact ⟨.ref s1.heap.objs.size, _, ok, rfl, q _ _ fresh rfl⟩⟩
def rCatX (K : PySem.W.Frag) : R2 := fun x y H Q => ∃ a b xs ys, x = .ref a ∧ y = .ref b ∧ SqT K H a xs ∧ SqT K H b ys ∧ xs.length + ys.length ≤ sizeLine ∧
  (xs = [] → Q (.ref b) H) ∧ (xs ≠ [] → ys = [] → Q (.ref a) H) ∧ (xs ≠ [] → ys ≠ [] → NewT H (xs ++ ys) Q)
theorem op_catX : OpR X (binaryOp .Add) (rCatX X.K) := by
  intro pins st σ HH x y v u QQ Inn rx ry h
  obtain ⟨a, b, xs, ys, rfl, rfl, ha, hb, hz, q0, q1, q2⟩ := h
  by_cases hx : xs = []
  · subst hx
    cases rx
    cases ry
    obtain ⟨jts, r1, p1, _⟩ := Inn.tuple ha
    obtain ⟨jts2, r2, p2, _⟩ := Inn.tuple hb
    cases r1
    exact cat_tup0 p1 p2 ⟨.ref b, HH, Inn, rfl, q0 rfl⟩
  · cases rx
    cases ry
    obtain ⟨jts, r1, p1, _⟩ := Inn.tuple ha
    obtain ⟨jts2, r2, p2, _⟩ := Inn.tuple hb
    refine HT.cat_tup p1 p2 (fun z => hx (r1.nil_iff.mp z)) (fun z => ⟨.ref a, HH, Inn, rfl, q1 hx (r2.nil_iff.mp z)⟩) (fun z => ?_) (by rw [← r1.length, ← r2.length]; exact hz)
    have ok := Inn.laid (t' := st.toks) (fun b ob q => Heap.get?_push_of_some _ q) (Nat.le_refl _) (tf_ok (r1.append r2) (by rw [List.length_append]; exact hz))
    exact ⟨.ref st.heap.objs.size, _, ok, rfl, q2 hx (fun w => z (r2.nil_iff.mpr w)) _ _ (Inn.hok.fresh (Nat.le_refl _)) rfl⟩
def rSlX (K : PySem.W.Frag) : V → Option Int → Option Int → Hp → VK → Prop := fun x lo hi H Q => ∃ a xs, x = .ref a ∧ SqT K H a xs ∧
  (HT.sIx xs.length 0 lo = 0 ∧ HT.sIx xs.length xs.length hi = xs.length → Q (.ref a) H) ∧ (¬ (HT.sIx xs.length 0 lo = 0 ∧ HT.sIx xs.length xs.length hi = xs.length) → NewT H (cutV xs lo hi) Q)
theorem sl_tupX : SlR X (rSlX X.K) := by
  intro pins st σ HH x v vl vu lo hi sl QQ Inn rx hs pl pu h
  obtain ⟨a, xs, rfl, hx, q1, q2⟩ := h
  cases rx
  obtain ⟨jts, r, ht, hz⟩ := Inn.tuple hx
  have hlen : jts.toArray.size = xs.length := by rw [List.size_toArray]; exact r.length.symm
  by_cases hw : HT.sIx xs.length 0 lo = 0 ∧ HT.sIx xs.length xs.length hi = xs.length
  · refine ⟨"tuple", _, PyProof.Rows.slot_tuple_getitem.lookup, ht.typeIs, ?_⟩
    exact getItem_tuple_whole ht hs pl pu (by rw [hlen]; exact hw) ⟨.ref a, HH, Inn, rfl, q1 hw⟩
  · refine ⟨"tuple", _, PyProof.Rows.slot_tuple_getitem.lookup, ht.typeIs, ?_⟩
    refine HT.getItem_tuple_cut ht hs pl pu (by rw [hlen]; exact hw) ?_ (by rw [hlen]; exact hz)
    rw [hlen]
    have ok := Inn.laid (t' := st.toks) (fun b ob q => Heap.get?_push_of_some _ q) (Nat.le_refl _) (tf_ok ((r.drop (HT.sIx xs.length 0 lo)).take (HT.sIx xs.length xs.length hi - HT.sIx xs.length 0 lo)) (Nat.le_trans (cutV_length xs lo hi) hz))
    exact ⟨.ref st.heap.objs.size, _, ok, rfl, q2 hw _ _ (Inn.hok.fresh (Nat.le_refl _)) rfl⟩
theorem call_tupX : CallR X (.type "tuple") (fun xs H Q => ∃ p ys, xs = [.ref p] ∧ ((SqL X.K H p ys ∧ NewT H ys Q) ∨ (SqT X.K H p ys ∧ Q (.ref p) H))) := by
  intro pins st σ HH xs us QQ Inn r h
  obtain ⟨p, ys, rfl, h⟩ := h
  obtain ⟨u, rfl, rx⟩ := vals1 r
  cases rx
  rcases h with ⟨hq, q⟩ | ⟨hq, q⟩
  · obtain ⟨jts, r', pl, hz⟩ := Inn.list hq
    have hlen := r'.length
    refine call_tuple_list pl.isList (fun h' kp => ?_) (by simp only [List.size_toArray] <;> omega)
    have I1 : Inv X pins σ HH { st with heap := h' } := Inn.kept (t' := st.toks) kp
    have ok := I1.laid (t' := st.toks) (fun b o e => Heap.get?_push_of_some _ e) (Nat.le_refl _) (tf_ok r' hz)
    exact ⟨.ref h'.objs.size, _, ok, rfl, q _ _ (I1.hok.fresh (Nat.le_refl _)) rfl⟩
  · obtain ⟨jts, r', pl, hz⟩ := Inn.tuple hq
    exact call_tuple_same pl ⟨.ref p, HH, Inn, rfl, q⟩
def rRepX (K : PySem.W.Frag) : R2 := fun x y H Q => ∃ l k xs, x = .ref l ∧ y = .int k ∧ SqT K H l xs ∧ xs ≠ [] ∧ 2 ≤ k ∧ k ≤ 1000 ∧ xs.length ≤ 1000 ∧ NewT H (List.replicate k.toNat xs).flatten Q
theorem op_repX : OpR X (binaryOp .Mult) (rRepX X.K) := by
  intro pins st σ HH x y v u QQ Inn rx ry h
  obtain ⟨l, k, xs, rfl, rfl, hT, hne, h1, h2, hz, q⟩ := h
  cases rx
  obtain ⟨t, rfl⟩ := ry
  obtain ⟨jts, r, ⟨⟨cls, dd, data, sl⟩, ho, hc, n, hd⟩, hs⟩ := Inn.tuple hT
  simp only at hc hd
  subst hc hd
  have hle : jts.length = xs.length := r.length.symm
  have hi : jts.toArray.isEmpty = false := by
    cases jts with
    | nil => exact absurd (List.eq_nil_of_length_eq_zero hle.symm) hne
    | cons a b => rfl
  have le6 : k.toNat * xs.length ≤ 1000 * 1000 := Nat.mul_le_mul (by omega) hz
  have flen : (List.replicate k.toNat jts).flatten.length ≤ sizeLine := by
    rw [PyProof.Rows.lm_len_rep_flat, hle, sizeLine_eq]
    omega
  have hm : ((jts.toArray.size : Nat) : Int) * k ≤ 1000000 := by
    rw [List.size_toArray, hle]
    have a1 : ((xs.length : Nat) : Int) * k ≤ 1000 * k := Int.mul_le_mul_of_nonneg_right (by omega) (by omega)
    omega
  have cA : (decide (k < -(2 ^ 63)) || decide (k ≥ 2 ^ 63)) = false := by
    rw [decide_eq_false (by omega), decide_eq_false (by omega)] <;> rfl
  have cB1 : (jts.toArray.isEmpty || k == 1) = false := by
    rw [hi, Bool.false_or]
    exact beq_eq_false_iff_ne.mpr (by omega)
  have cC : (decide (k ≤ 0) || jts.toArray.isEmpty) = false := by
    rw [hi, Bool.or_false]
    exact decide_eq_false (by omega)
  have cD : Builtin.Tuple.tupleTooMany (((jts.toArray.size : Nat) : Int) * k) = false := by
    unfold Builtin.Tuple.tupleTooMany
    rw [sizeLine_eq]
    exact decide_eq_false (by omega)
  refine wpAny_binaryOp_repeat_ref (T := "tuple") (U := "int") (by decide) ⟨_, ho, rfl⟩ (fun s' => typeIs_int s' k t) L2.noFill_tuple_mul F.fills_int_mul F.slot_int_rmul L2.repeat_tuple F.slot_int_index.lookup
    (call_meets F.slot_int_rmul (typeIs_int st k t) F.entry_int_rmul (F.args_int_rmul_2 _ _) (L2.int_rmul_tuple k t l jts.toArray n dd sl)
      ⟨ho, rfl, ⟨_, ho, rfl⟩, call_meets F.slot_tuple_mul ⟨_, ho, rfl⟩ F.entry_tuple_mul (F.args_tuple_mul_2 _ _) (L2.tuple_mulW l jts.toArray n dd sl k t cA cB1 cC (by omega) cD (by rw [L2.size_rep, List.size_toArray]; exact flen)) ⟨ho, ?_⟩⟩)
  rw [L2.size_rep]
  have ok := Inn.laid (t' := st.toks) (fun b ob q => Heap.get?_push_of_some _ q) (Nat.le_refl _) (tf_ok (r.rep k.toNat) (by rw [PyProof.Rows.lm_len_rep_flat, sizeLine_eq]; omega))
  exact ⟨.ref st.heap.objs.size, _, ok, rfl, q _ _ (Inn.hok.fresh (Nat.le_refl _)) rfl⟩
end
end Q

set_option Elab.async false
set_option linter.all false
set_option maxRecDepth 100000
set_option maxHeartbeats 4000000
/-! Values by what they say: frozen data, owned trees of lists and dicts. -/
namespace Q
open PySem PySem.Spec PyProof.Rows L2

/-- an owned tree: lists and dicts that only one name holds; fz: data that nobody changes any more -/
inductive M where
  | fz (d : PyData)
  | lst (xs : List M)
  | tup (xs : List M)
  | dK (ks : List Key) (ms : List M)
  | dT (ks : List (List Key)) (ms : List M)

/-- a tuple at a, known to have no dict -/
def SqN (K : PySem.W.Frag) (H : Hp) (a : Addr) (xs : List V) : Prop :=
  (∃ o, H a = some (TF o xs) ∧ o.dict = none) ∨ ∃ (o : Obj) (its : Array Value) (n : Nat), K.lookup a = some o ∧ o.cls = .type "tuple" ∧ o.data = .seq its n ∧ its.size ≤ sizeLine ∧ Vals xs its.toList ∧ o.dict = none
theorem SqN.t {K : PySem.W.Frag} {H : Hp} {a : Addr} {xs : List V} (h : SqN K H a xs) : SqT K H a xs := by
  rcases h with ⟨o, h, _⟩ | ⟨o, its, n, h1, h2, h3, h4, h5, _⟩
  · exact .inl (.inr ⟨o, h⟩)
  · exact .inr ⟨o, its, n, h1, h2, h3, h4, h5⟩
mutual
/-- frozen data at a value; G: where its lists may stand -/
inductive RF (K : PySem.W.Frag) (H : Hp) (G : Addr → Prop) : V → PyData → Prop
  | non : RF K H G .non .none
  | bl (b : Bool) : RF K H G (.bl b) (.bool b)
  | int (i : Int) : RF K H G (.int i) (.int i)
  | str (x : Str) : RF K H G (.str x) (.str x)
  | lst {a : Addr} {xs : List V} {ds : List PyData} : L2.Rd H a (.lst xs) → G a → RFs K H G xs ds → RF K H G (.ref a) (.list ds)
  | tup {a : Addr} {xs : List V} {ds : List PyData} : SqN K H a xs → RFs K H G xs ds → RF K H G (.ref a) (.tuple ds)
inductive RFs (K : PySem.W.Frag) (H : Hp) (G : Addr → Prop) : List V → List PyData → Prop
  | nil : RFs K H G [] []
  | cons {v : V} {vs : List V} {d : PyData} {ds : List PyData} : RF K H G v d → RFs K H G vs ds → RFs K H G (v :: vs) (d :: ds)
end

mutual
/-- an owned tree at a value; F: the addresses of its lists and dicts -/
inductive RM (K : PySem.W.Frag) (H : Hp) (G : Addr → Prop) : V → M → List Addr → Prop
  | fz {v : V} {d : PyData} : RF K H G v d → RM K H G v (.fz d) []
  | lst {a : Addr} {xs : List V} {ms : List M} {F : List Addr} : H a = some (.lst xs) → RMs K H G xs ms F → RM K H G (.ref a) (.lst ms) (a :: F)
  | tup {a : Addr} {xs : List V} {ms : List M} {F : List Addr} : SqN K H a xs → RMs K H G xs ms F → RM K H G (.ref a) (.tup ms) F
  | dK {a : Addr} {kvs : List (Key × V)} {ms : List M} {F : List Addr} : H a = some (.dK kvs) → RMs K H G (kvs.map (·.2)) ms F → RM K H G (.ref a) (.dK (kvs.map (·.1)) ms) (a :: F)
  | dT {a : Addr} {kvs : List (List Key × V)} {ms : List M} {F : List Addr} : H a = some (.dT kvs) → RMs K H G (kvs.map (·.2)) ms F → RM K H G (.ref a) (.dT (kvs.map (·.1)) ms) (a :: F)
inductive RMs (K : PySem.W.Frag) (H : Hp) (G : Addr → Prop) : List V → List M → List Addr → Prop
  | nil : RMs K H G [] [] []
  | cons {v : V} {vs : List V} {m : M} {ms : List M} {F F' : List Addr} : RM K H G v m F → RMs K H G vs ms F' → RMs K H G (v :: vs) (m :: ms) (F ++ F')
end

/-- no tuple and no locked thing is owned -/
def OM (H : Hp) (O : List Addr) : Prop := ∀ a ∈ O, (∀ xs, H a ≠ some (.tup xs)) ∧ ∀ o u, H a ≠ some (.frz o u)
section
variable {K : PySem.W.Frag} {H H' : Hp} {G G' : Addr → Prop} {O : List Addr}
theorem rd_keep {a : Addr} {u : HO} (h : L2.Rd H a u) (fr : ∀ o, H a = some o → H' a = some o) : L2.Rd H' a u := by
  rcases h with h | ⟨o, h⟩
  · exact .inl (fr _ h)
  · exact .inr ⟨o, fr _ h⟩
theorem sqt_keep {a : Addr} {xs : List V} (h : SqT K H a xs) (om : OM H O) (fr : ∀ a o, a ∉ O → H a = some o → H' a = some o) : SqT K H' a xs := by
  rcases h with h | h
  · refine .inl (rd_keep h fun o e => fr a o (fun ha => ?_) e)
    rcases h with h | ⟨o, h⟩
    · exact (om a ha).1 _ h
    · exact (om a ha).2 _ _ h
  · exact .inr h
theorem sqn_keep {a : Addr} {xs : List V} (h : SqN K H a xs) (om : OM H O) (fr : ∀ a o, a ∉ O → H a = some o → H' a = some o) : SqN K H' a xs := by
  rcases h with ⟨o, h, hd⟩ | h
  · exact .inl ⟨o, fr a _ (fun ha => (om a ha).2 _ _ h) h, hd⟩
  · exact .inr h
theorem rd_some {a : Addr} {u : HO} (h : L2.Rd H a u) : ∃ o, H a = some o := by
  rcases h with h | ⟨o, h⟩
  · exact ⟨_, h⟩
  · exact ⟨_, h⟩
mutual
theorem RF.step : ∀ {v : V} {d : PyData}, RF K H G v d → OM H O → (∀ a, G a → a ∉ O) → (∀ a o, a ∉ O → H a = some o → H' a = some o) → (∀ a o, G a → H a = some o → G' a) → RF K H' G' v d
  | _, _, .non, _, _, _, _ => .non
  | _, _, .bl b, _, _, _, _ => .bl b
  | _, _, .int i, _, _, _, _ => .int i
  | _, _, .str x, _, _, _, _ => .str x
  | _, _, .lst h g r, om, go, fr, gg => by
    obtain ⟨o, e⟩ := rd_some h
    exact .lst (rd_keep h fun o e => fr _ o (go _ g) e) (gg _ _ g e) (RFs.step r om go fr gg)
  | _, _, .tup h r, om, go, fr, gg => .tup (sqn_keep h om fr) (RFs.step r om go fr gg)
theorem RFs.step : ∀ {vs : List V} {ds : List PyData}, RFs K H G vs ds → OM H O → (∀ a, G a → a ∉ O) → (∀ a o, a ∉ O → H a = some o → H' a = some o) → (∀ a o, G a → H a = some o → G' a) → RFs K H' G' vs ds
  | _, _, .nil, _, _, _, _ => .nil
  | _, _, .cons h r, om, go, fr, gg => .cons (RF.step h om go fr gg) (RFs.step r om go fr gg)
end
mutual
theorem RM.step : ∀ {v : V} {m : M} {F : List Addr}, RM K H G v m F → OM H O → (∀ a, G a → a ∉ O) → (∀ a ∈ F, a ∉ O) → (∀ a o, a ∉ O → H a = some o → H' a = some o) → (∀ a o, G a → H a = some o → G' a) → RM K H' G' v m F
  | _, _, _, .fz h, om, go, _, fr, gg => .fz (h.step om go fr gg)
  | _, _, _, .lst h r, om, go, fo, fr, gg => .lst (fr _ _ (fo _ List.mem_cons_self) h) (RMs.step r om go (fun a ha => fo a (List.mem_cons_of_mem _ ha)) fr gg)
  | _, _, _, .tup h r, om, go, fo, fr, gg => .tup (sqn_keep h om fr) (RMs.step r om go fo fr gg)
  | _, _, _, .dK h r, om, go, fo, fr, gg => .dK (fr _ _ (fo _ List.mem_cons_self) h) (RMs.step r om go (fun a ha => fo a (List.mem_cons_of_mem _ ha)) fr gg)
  | _, _, _, .dT h r, om, go, fo, fr, gg => .dT (fr _ _ (fo _ List.mem_cons_self) h) (RMs.step r om go (fun a ha => fo a (List.mem_cons_of_mem _ ha)) fr gg)
theorem RMs.step : ∀ {vs : List V} {ms : List M} {F : List Addr}, RMs K H G vs ms F → OM H O → (∀ a, G a → a ∉ O) → (∀ a ∈ F, a ∉ O) → (∀ a o, a ∉ O → H a = some o → H' a = some o) → (∀ a o, G a → H a = some o → G' a) → RMs K H' G' vs ms F
  | _, _, _, .nil, _, _, _, _, _ => .nil
  | _, _, _, .cons h r, om, go, fo, fr, gg => .cons (RM.step h om go (fun a ha => fo a (List.mem_append_left _ ha)) fr gg) (RMs.step r om go (fun a ha => fo a (List.mem_append_right _ ha)) fr gg)
end
/-- what is owned is a list or a dict -/
def Owd : HO → Prop
  | .lst _ => True | .dK _ => True | .dT _ => True | _ => False
mutual
theorem RM.owd : ∀ {v : V} {m : M} {F : List Addr}, RM K H G v m F → ∀ a ∈ F, ∃ o, H a = some o ∧ Owd o
  | _, _, _, .fz _, _, ha => nomatch ha
  | _, _, _, .lst h r, a, ha => by
    rcases List.mem_cons.mp ha with e | ha
    · subst e; exact ⟨_, h, trivial⟩
    · exact RMs.owd r a ha
  | _, _, _, .tup h r, a, ha => RMs.owd r a ha
  | _, _, _, .dK h r, a, ha => by
    rcases List.mem_cons.mp ha with e | ha
    · subst e; exact ⟨_, h, trivial⟩
    · exact RMs.owd r a ha
  | _, _, _, .dT h r, a, ha => by
    rcases List.mem_cons.mp ha with e | ha
    · subst e; exact ⟨_, h, trivial⟩
    · exact RMs.owd r a ha
theorem RMs.owd : ∀ {vs : List V} {ms : List M} {F : List Addr}, RMs K H G vs ms F → ∀ a ∈ F, ∃ o, H a = some o ∧ Owd o
  | _, _, _, .nil, _, ha => nomatch ha
  | _, _, _, .cons h r, a, ha => by
    rcases List.mem_append.mp ha with ha | ha
    · exact RM.owd h a ha
    · exact RMs.owd r a ha
end
theorem OM.of {O : List Addr} (h : ∀ a ∈ O, ∃ o, H a = some o ∧ Owd o) : OM H O := fun a ha => by
  obtain ⟨o, e, w⟩ := h a ha
  refine ⟨fun xs z => ?_, fun o' u z => ?_⟩
  · rw [e] at z; cases z; exact w
  · rw [e] at z; cases z; exact w
theorem RFs.length : ∀ {vs : List V} {ds : List PyData}, RFs K H G vs ds → vs.length = ds.length
  | _, _, .nil => rfl
  | _, _, .cons _ r => by simp [RFs.length r]
theorem RMs.length : ∀ {vs : List V} {ms : List M} {F : List Addr}, RMs K H G vs ms F → vs.length = ms.length
  | _, _, _, .nil => rfl
  | _, _, _, .cons _ r => by simp [RMs.length r]
theorem RFs.get : ∀ {vs : List V} {ds : List PyData} {i : Nat} {d : PyData}, RFs K H G vs ds → ds[i]? = some d → ∃ v, vs[i]? = some v ∧ RF K H G v d
  | _, _, 0, _, .cons h _, e => by simp at e; subst e; exact ⟨_, rfl, h⟩
  | _, _, i + 1, _, .cons _ r, e => by
    obtain ⟨v, h1, h2⟩ := RFs.get (i := i) r (by simpa using e)
    exact ⟨v, by simpa using h1, h2⟩
theorem RMs.get : ∀ {vs : List V} {ms : List M} {F : List Addr} {i : Nat} {m : M}, RMs K H G vs ms F → ms[i]? = some m → ∃ v F', vs[i]? = some v ∧ RM K H G v m F' ∧ F'.Sublist F
  | _, _, _, 0, _, .cons h _, e => by simp at e; subst e; exact ⟨_, _, rfl, h, List.sublist_append_left _ _⟩
  | _, _, _, i + 1, _, .cons _ r, e => by
    obtain ⟨v, F', h1, h2, h3⟩ := RMs.get (i := i) r (by simpa using e)
    exact ⟨v, F', by simpa using h1, h2, h3.trans (List.sublist_append_right _ _)⟩

/-! ### freezing -/
mutual
def frz : M → Option PyData
  | .fz d => some d
  | .lst xs => (frzs xs).map .list
  | .tup xs => (frzs xs).map .tuple
  | .dK _ _ => none
  | .dT _ _ => none
def frzs : List M → Option (List PyData)
  | [] => some []
  | m :: ms => (frz m).bind fun d => (frzs ms).map fun ds => d :: ds
end
mutual
theorem RM.freeze : ∀ {v : V} {m : M} {F : List Addr} {d : PyData}, RM K H G v m F → frz m = some d → (∀ a, G a → G' a) → (∀ a ∈ F, G' a) → RF K H G' v d
  | _, _, _, d, .fz h, e, gg, _ => by
    unfold frz at e; cases e
    exact h.step (O := []) (fun _ z => nomatch z) (fun _ _ z => nomatch z) (fun _ _ _ z => z) fun a _ g _ => gg a g
  | _, _, _, d, .lst h r, e, gg, fg => by
    unfold frz at e
    obtain ⟨ds, e1, rfl⟩ := Option.map_eq_some_iff.mp e
    exact .lst (.inl h) (fg _ List.mem_cons_self) (RMs.freeze r e1 gg fun a ha => fg a (List.mem_cons_of_mem _ ha))
  | _, _, _, d, .tup h r, e, gg, fg => by
    unfold frz at e
    obtain ⟨ds, e1, rfl⟩ := Option.map_eq_some_iff.mp e
    exact .tup h (RMs.freeze r e1 gg fg)
  | _, _, _, d, .dK h r, e, gg, fg => by unfold frz at e; cases e
  | _, _, _, d, .dT h r, e, gg, fg => by unfold frz at e; cases e
theorem RMs.freeze : ∀ {vs : List V} {ms : List M} {F : List Addr} {ds : List PyData}, RMs K H G vs ms F → frzs ms = some ds → (∀ a, G a → G' a) → (∀ a ∈ F, G' a) → RFs K H G' vs ds
  | _, _, _, ds, .nil, e, _, _ => by unfold frzs at e; cases e; exact .nil
  | _, _, _, ds, .cons h r, e, gg, fg => by
    unfold frzs at e
    obtain ⟨d, e1, e2⟩ := Option.bind_eq_some_iff.mp e
    obtain ⟨ds', e3, rfl⟩ := Option.map_eq_some_iff.mp e2
    exact .cons (RM.freeze h e1 gg fun a ha => fg a (List.mem_append_left _ ha)) (RMs.freeze r e3 gg fun a ha => fg a (List.mem_append_right _ ha))
end
end
end Q

set_option Elab.async false
set_option linter.all false
set_option maxRecDepth 100000
set_option maxHeartbeats 4000000
/-! The slots of a frame, what an evaluation leaves. -/
namespace Q
open PySem PySem.Spec PyProof.Rows L2

abbrev Ev := List (Option M)
/-- the slots: env by the values σ; Fs: what each one owns -/
inductive Slots (K : PySem.W.Frag) (H : Hp) (G : Addr → Prop) : Ev → L2.St → List (List Addr) → Prop
  | nil : Slots K H G [] [] []
  | non {x : Option V} {env : Ev} {σ : L2.St} {Fs : List (List Addr)} : Slots K H G env σ Fs → Slots K H G (none :: env) (x :: σ) ([] :: Fs)
  | som {m : M} {v : V} {F : List Addr} {env : Ev} {σ : L2.St} {Fs : List (List Addr)} : RM K H G v m F → Slots K H G env σ Fs → Slots K H G (some m :: env) (some v :: σ) (F :: Fs)

structure SI (K : PySem.W.Frag) (Z : Addr → Prop) (O : List Addr) (env : Ev) (σ : L2.St) (H : Hp) : Prop where
  sl : ∃ Fs, Slots K H (fun a => ¬ Z a ∧ a ∉ O) env σ Fs ∧ Fs.flatten = O
  nd : O.Nodup
  nz : ∀ a ∈ O, ¬ Z a
  zt : ∀ a, Z a → ∃ o, H a = some o

abbrev Zp (Z : Addr → Prop) (F : List Addr) : Addr → Prop := fun a => Z a ∨ a ∈ F
theorem Zp_nil (Z : Addr → Prop) : Zp Z [] = Z := by
  funext a; unfold Zp; simp

inductive Val where
  | own (m : M)
  | vw (m : M)
def Val.isV : Val → Bool
  | .own _ => false
  | .vw _ => true
def Val.m : Val → M
  | .own m => m
  | .vw m => m
/-- p: nothing made, nothing changed; q: things made; l: things changed -/
inductive Ql where
  | p | q | l
def Ql.j : Ql → Ql → Ql
  | .p, y => y
  | .q, .l => .l
  | .q, _ => .q
  | .l, _ => .l
structure Exn where
  cls : Str
  fs : List (Str × PyData)
inductive Res where
  | ok (x : Val) (env : Ev) (q : Ql)
  | exn (c : Exn) (env : Ev)
  | stuck
inductive ResL where
  | ok (xs : List Val) (env : Ev) (q : Ql)
  | exn (c : Exn) (env : Ev)
  | stuck

/-- values with their owned trees; the views' lists lie in Gv -/
inductive RVs (K : PySem.W.Frag) (H : Hp) (G Gv : Addr → Prop) : List V → List Val → List Addr → Prop
  | nil : RVs K H G Gv [] [] []
  | own {v : V} {m : M} {F F' : List Addr} {vs : List V} {xs : List Val} : RM K H G v m F → RVs K H G Gv vs xs F' → RVs K H G Gv (v :: vs) (.own m :: xs) (F ++ F')
  | vw {v : V} {m : M} {F F' : List Addr} {vs : List V} {xs : List Val} : RM K H G v m F → (∀ a ∈ F, Gv a) → RVs K H G Gv vs xs F' → RVs K H G Gv (v :: vs) (.vw m :: xs) F'

structure Step (O : List Addr) (H : Hp) (O' F : List Addr) (H' : Hp) : Prop where
  keep : ∀ a o, a ∉ O → H a = some o → H' a = some o ∧ a ∉ O' ∧ a ∉ F
def Quiet (H H' : Hp) : Prop := ∀ a o, H a = some o → H' a = some o

/-- behind a row of expressions; O' is what the slots own, F what the values own -/
abbrev PostAt (K : PySem.W.Frag) (Z : Addr → Prop) (O : List Addr) (env : Ev) (σ : L2.St) (H : Hp) (vs : List V) (H' : Hp) (xs : List Val) (env' : Ev) (q : Ql) (O' F : List Addr) : Prop :=
  SI K (Zp Z F) O' env' σ H' ∧ RVs K H' (fun a => ¬ Z a ∧ a ∉ O' ∧ a ∉ F) (fun a => ¬ Z a) vs xs F ∧ F.Nodup ∧ (∀ a ∈ F, ¬ Z a) ∧ Step O H O' F H' ∧ (q ≠ .l → Quiet H H') ∧ (q = .p → H' = H ∧ env' = env ∧ F = [])
structure PostL (K : PySem.W.Frag) (Z : Addr → Prop) (O : List Addr) (env : Ev) (σ : L2.St) (H : Hp) (vs : List V) (H' : Hp) (xs : List Val) (env' : Ev) (q : Ql) : Prop where
  ex : ∃ O' F, PostAt K Z O env σ H vs H' xs env' q O' F
abbrev Post (K : PySem.W.Frag) (Z : Addr → Prop) (O : List Addr) (env : Ev) (σ : L2.St) (H : Hp) (v : V) (H' : Hp) (x : Val) (env' : Ev) (q : Ql) : Prop := PostL K Z O env σ H [v] H' [x] env' q
/-- an exception told -/
structure ExnR (K : PySem.W.Frag) (mg : Str → Option Value) (H : Hp) (c : Exn) (cls : Value) (d : Option Addr) : Prop where
  cls : ∃ C, cls = .ref C ∧ mg c.cls = some (.ref C)
  fs : (c.fs = [] ∧ d = none) ∨ ∃ dd vs, d = some dd ∧ H dd = some (.xd ((c.fs.map (·.1)).zip vs)) ∧ RFs K H (fun _ => False) vs (c.fs.map (·.2))
structure PostX (K : PySem.W.Frag) (mg : Str → Option Value) (Z : Addr → Prop) (O : List Addr) (σ : L2.St) (H : Hp) (cls : Value) (d : Option Addr) (H' : Hp) (c : Exn) (env' : Ev) : Prop where
  ex : ∃ O', SI K Z O' env' σ H' ∧ Step O H O' [] H'
  er : ExnR K mg H' c cls d

def TU (K : PySem.W.Frag) (mg : Str → Option Value) (W : WX) (den : Ev → Res) : TE := fun σ H Q => ∃ Z O env, SI K Z O env σ H ∧
  match den env with
  | .ok x env' q => ∀ v H', Post K Z O env σ H v H' x env' q → Q v H'
  | .exn c env' => ∀ cls d H', PostX K mg Z O σ H cls d H' c env' → W cls d σ H'
  | .stuck => False
def TUL (K : PySem.W.Frag) (mg : Str → Option Value) (W : WX) (den : Ev → ResL) : TA := fun σ H Q => ∃ Z O env, SI K Z O env σ H ∧
  match den env with
  | .ok xs env' q => ∀ vs H', PostL K Z O env σ H vs H' xs env' q → Q vs H'
  | .exn c env' => ∀ cls d H', PostX K mg Z O σ H cls d H' c env' → W cls d σ H'
  | .stuck => False

def evs : List (Ev → Res) → Ev → ResL
  | [], env => .ok [] env .p
  | f :: fs, env => match f env with
    | .ok x env1 q1 => (match evs fs env1 with
      | .ok xs env2 q2 => (match x, q2 with
        | .vw _, .l => .stuck
        | _, _ => .ok (x :: xs) env2 (q1.j q2))
      | .exn c env2 => .exn c env2
      | .stuck => .stuck)
    | .exn c env1 => .exn c env1
    | .stuck => .stuck

section
variable {K : PySem.W.Frag} {mg : Str → Option Value} {H H' H1 H2 : Hp} {G G' Gv Gv' : Addr → Prop} {O O1 O2 F F1 F2 : List Addr} {Z : Addr → Prop} {env env1 env2 : Ev} {σ : L2.St}
theorem Step.refl : Step O H O [] H := ⟨fun a o n e => ⟨e, n, fun z => nomatch z⟩⟩
theorem Step.trans (a : Step O H O1 F1 H1) (b : Step O1 H1 O2 F2 H2) : Step O H O2 (F1 ++ F2) H2 := ⟨fun x o n e => by
  obtain ⟨e1, n1, f1⟩ := a.keep x o n e
  obtain ⟨e2, n2, f2⟩ := b.keep x o n1 e1
  exact ⟨e2, n2, fun z => (List.mem_append.mp z).elim f1 f2⟩⟩
theorem Step.weak (a : Step O H O1 F1 H1) (h : ∀ x ∈ F2, x ∈ F1) : Step O H O1 F2 H1 := ⟨fun x o n e => by
  obtain ⟨e1, n1, f1⟩ := a.keep x o n e
  exact ⟨e1, n1, fun z => f1 (h x z)⟩⟩
theorem Slots.owd : ∀ {env : Ev} {σ : L2.St} {Fs : List (List Addr)}, Slots K H G env σ Fs → ∀ a ∈ Fs.flatten, ∃ o, H a = some o ∧ Owd o
  | _, _, _, .nil, a, ha => by simp at ha
  | _, _, _, .non r, a, ha => Slots.owd r a (by simpa using ha)
  | _, _, _, .som h r, a, ha => by
    rw [List.flatten_cons] at ha
    rcases List.mem_append.mp ha with ha | ha
    · exact h.owd a ha
    · exact Slots.owd r a ha
theorem SI.owd (I : SI K Z O env σ H) : ∀ a ∈ O, ∃ o, H a = some o ∧ Owd o := by
  obtain ⟨Fs, s, e⟩ := I.sl
  rw [← e]
  exact s.owd
theorem SI.om (I : SI K Z O env σ H) : OM H O := OM.of I.owd
theorem RM.imp {v : V} {m : M} (r : RM K H G v m F) (gg : ∀ a, G a → G' a) : RM K H G' v m F :=
  r.step (O := []) (fun _ z => nomatch z) (fun _ _ z => nomatch z) (fun _ _ z => nomatch z) (fun _ _ _ z => z) fun a _ g _ => gg a g
theorem RF.imp {v : V} {d : PyData} (r : RF K H G v d) (gg : ∀ a, G a → G' a) : RF K H G' v d :=
  r.step (O := []) (fun _ z => nomatch z) (fun _ _ z => nomatch z) (fun _ _ _ z => z) fun a _ g _ => gg a g
theorem RFs.imp {vs : List V} {ds : List PyData} (r : RFs K H G vs ds) (gg : ∀ a, G a → G' a) : RFs K H G' vs ds :=
  r.step (O := []) (fun _ z => nomatch z) (fun _ _ z => nomatch z) (fun _ _ _ z => z) fun a _ g _ => gg a g
theorem Slots.imp : ∀ {env : Ev} {σ : L2.St} {Fs : List (List Addr)}, Slots K H G env σ Fs → (∀ a, G a → G' a) → Slots K H G' env σ Fs
  | _, _, _, .nil, _ => .nil
  | _, _, _, .non r, g => .non (Slots.imp r g)
  | _, _, _, .som h r, g => .som (h.imp g) (Slots.imp r g)
theorem SI.weak {Z' : Addr → Prop} (I : SI K Z O env σ H) (h : ∀ a, Z' a → Z a) : SI K Z' O env σ H := by
  obtain ⟨Fs, s, e⟩ := I.sl
  exact ⟨⟨Fs, s.imp fun a ⟨x, y⟩ => ⟨fun z => x (h a z), y⟩, e⟩, I.nd, fun a ha z => I.nz a ha (h a z), fun a z => I.zt a (h a z)⟩
theorem RVs.imp : ∀ {vs : List V} {xs : List Val} {F : List Addr}, RVs K H G Gv vs xs F → (∀ a, G a → G' a) → (∀ a, Gv a → Gv' a) → RVs K H G' Gv' vs xs F
  | _, _, _, .nil, _, _ => .nil
  | _, _, _, .own h r, g, g' => .own (h.imp g) (RVs.imp r g g')
  | _, _, _, .vw h f r, g, g' => .vw (h.imp g) (fun a ha => g' a (f a ha)) (RVs.imp r g g')
theorem RVs.length : ∀ {vs : List V} {xs : List Val} {F : List Addr}, RVs K H G Gv vs xs F → vs.length = xs.length
  | _, _, _, .nil => rfl
  | _, _, _, .own _ r => by simp [RVs.length r]
  | _, _, _, .vw _ _ r => by simp [RVs.length r]

/-- one value, then the others -/
theorem PostL.cons {v : V} {x : Val} {q1 q2 : Ql} (p1 : Post K Z O env σ H v H1 x env1 q1) :
    ∃ O1 F1, SI K (Zp Z F1) O1 env1 σ H1 ∧ ∀ {vs : List V} {xs : List Val} {env2 : Ev} {H2 : Hp}, PostL K (Zp Z F1) O1 env1 σ H1 vs H2 xs env2 q2 → (x.isV = true → q2 ≠ .l) → PostL K Z O env σ H (v :: vs) H2 (x :: xs) env2 (q1.j q2) := by
  obtain ⟨O1, F1, I1, r1, nd1, nz1, st1, qu1, pp1⟩ := p1.ex
  refine ⟨O1, F1, I1, fun {vs xs env2 H2} p2 hv => ?_⟩
  obtain ⟨O2, F2, I2, r2, nd2, nz2, st2, qu2, pp2⟩ := p2.ex
  have om1 := I1.om
  have d12 : ∀ a ∈ F1, a ∉ F2 := fun a h1 h2 => nz2 a h2 (.inr h1)
  have I3 : SI K (Zp Z (F1 ++ F2)) O2 env2 σ H2 := I2.weak fun a z => by
    rcases z with z | z
    · exact .inl (.inl z)
    · rcases List.mem_append.mp z with z | z
      · exact .inl (.inr z)
      · exact .inr z
  have lo : ∀ {a}, a ∈ F1 → a ∉ O1 := fun {a} h z => I1.nz a z (.inr h)
  have lo2 : ∀ {a}, a ∈ F1 → a ∉ O2 := fun {a} h z => I2.nz a z (.inl (.inr h))
  -- what the first value says, behind the second evaluation
  have go : ∀ a, (¬ Z a ∧ a ∉ O1 ∧ a ∉ F1) → a ∉ O1 := fun a h => h.2.1
  have gg : ∀ a o, (¬ Z a ∧ a ∉ O1 ∧ a ∉ F1) → H1 a = some o → (¬ Z a ∧ a ∉ O2 ∧ a ∉ F1 ++ F2) := fun a o h e => by
    obtain ⟨_, n2, n3⟩ := st2.keep a o h.2.1 e
    exact ⟨h.1, n2, fun z => (List.mem_append.mp z).elim h.2.2 n3⟩
  have rr2 : RVs K H2 (fun a => ¬ Z a ∧ a ∉ O2 ∧ a ∉ F1 ++ F2) (fun a => ¬ Z a) vs xs F2 := r2.imp (fun a h => ⟨fun z => h.1 (.inl z), h.2.1, fun z => (List.mem_append.mp z).elim (fun z => h.1 (.inr z)) h.2.2⟩) fun a h z => h (.inl z)
  have pp : q1.j q2 = .p → H2 = H ∧ env2 = env ∧ F1 ++ F2 = [] := fun e => by
    have e1 : q1 = .p ∧ q2 = .p := by cases q1 <;> cases q2 <;> simp [Ql.j] at e ⊢
    obtain ⟨a1, a2, a3⟩ := pp1 e1.1
    obtain ⟨b1, b2, b3⟩ := pp2 e1.2
    exact ⟨b1.trans a1, b2.trans a2, by rw [a3, b3]; rfl⟩
  have qq : q1.j q2 ≠ .l → Quiet H H2 := fun e => by
    have e1 : q1 ≠ .l ∧ q2 ≠ .l := by cases q1 <;> cases q2 <;> simp [Ql.j] at e ⊢
    exact fun a o z => qu2 e1.2 a o (qu1 e1.1 a o z)
  cases r1 with
  | own h hr =>
    cases hr
    rw [List.append_nil] at *
    refine ⟨O2, _, I3, .own (h.step om1 go (fun a ha => lo ha) (fun a o n e => (st2.keep a o n e).1) gg) rr2, ?_, fun a ha => ?_, st1.trans st2, qq, pp⟩
    · exact List.nodup_append.mpr ⟨nd1, nd2, fun a h1 b h2 e => d12 a h1 (e ▸ h2)⟩
    · rcases List.mem_append.mp ha with ha | ha
      · exact nz1 a ha
      · exact fun z => nz2 a ha (.inl z)
  | vw h hf hr =>
    cases hr
    have qi := qu2 (hv rfl)
    refine ⟨O2, F2, by simpa using I3, ?_, nd2, fun a ha z => nz2 a ha (.inl z), by simpa using st1.trans st2, qq, by simpa using pp⟩
    refine .vw (h.step (O := []) (H' := H2) (fun _ z => nomatch z) (fun _ _ z => nomatch z) (fun _ _ z => nomatch z) (fun a o _ e => qi a o e) fun a o g e => ?_) hf (by simpa using rr2)
    simpa using gg a o g e
theorem PostL.nil (I : SI K Z O env σ H) : PostL K Z O env σ H [] H [] env .p :=
  ⟨O, [], by rw [Zp_nil]; exact I, .nil, List.Pairwise.nil, (fun _ z => nomatch z), Step.refl, (fun _ _ _ e => e), (fun _ => ⟨rfl, rfl, rfl⟩)⟩
theorem PostX.after {cls : Value} {d : Option Addr} {c : Exn} {v : V} {x : Val} {q1 : Ql} {O1 F1 : List Addr} (st : Step O H O1 F1 H1) (p : PostX K mg (Zp Z F1) O1 σ H1 cls d H2 c env2) : PostX K mg Z O σ H cls d H2 c env2 := by
  obtain ⟨O2, I2, st2⟩ := p.ex
  exact ⟨⟨O2, I2.weak fun a z => .inl z, (st.trans st2).weak fun _ z => nomatch z⟩, p.er⟩
end

/-! ### judgements -/
def SE (X : Cx) (den : Ev → Res) (e : Expr) : Prop := ∀ W, Takes X W → PE X e (TU X.K X.mg W den)
def SA (X : Cx) (den : Ev → ResL) (es : List Expr) : Prop := ∀ W, Takes X W → PA X es (TUL X.K X.mg W den)
theorem PE.imp {X : Cx} {e : Expr} {t t' : TE} (h : PE X e t) (i : ∀ σ H Q, t' σ H Q → t σ H Q) : PE X e t' := ⟨fun pins s σ H Q I q => h.run pins s σ H Q I (i σ H Q q)⟩
theorem PA.imp {X : Cx} {e : List Expr} {t t' : TA} (h : PA X e t) (i : ∀ σ H Q, t' σ H Q → t σ H Q) : PA X e t' := ⟨fun pos pins s σ H Q I q => h.run pos pins s σ H Q I (i σ H Q q)⟩
theorem PT.imp {X : Cx} {e : Expr} {t t' : TT} (h : PT X e t) (i : ∀ σ H Q, t' σ H Q → t σ H Q) : PT X e t' := ⟨fun pins s σ H Q I q => h.run pins s σ H Q I (i σ H Q q)⟩
theorem PS.imp {X : Cx} {e : Stmt} {t t' : TS} (h : PS X e t) (i : ∀ D σ H, t' D σ H → t D σ H) : PS X e t' := ⟨fun pins s σ H D I q => h.run pins s σ H D I (i D σ H q)⟩
theorem PSs.imp {X : Cx} {e : List Stmt} {t t' : TS} (h : PSs X e t) (i : ∀ D σ H, t' D σ H → t D σ H) : PSs X e t' := ⟨fun pins s σ H D I q => h.run pins s σ H D I (i D σ H q)⟩

/-- the heart: a row of evaluations, one after the other; f the first, tr the reading of the others -/
theorem tu_cons {K : PySem.W.Frag} {mg : Str → Option Value} {W : WX} {f : Ev → Res} {fs : List (Ev → Res)} {σ : L2.St} {H : Hp} {R : List V → Hp → Prop}
    (h : TUL K mg W (evs (f :: fs)) σ H R) : TU K mg W f σ H fun v H1 => TUL K mg W (evs fs) σ H1 fun vs H2 => R (v :: vs) H2 := by
  obtain ⟨Z, O, env, I, h⟩ := h
  refine ⟨Z, O, env, I, ?_⟩
  unfold evs at h
  cases ef : f env with
  | stuck => rw [ef] at h; exact h
  | exn c env1 => rw [ef] at h; exact h
  | ok x env1 q1 =>
    rw [ef] at h
    intro v H1 p1
    cases er : evs fs env1 with
    | stuck =>
      simp only [er] at h
    | exn c env2 =>
      simp only [er] at h
      obtain ⟨O1, F1, I1, r1, nd1, nz1, st1, _⟩ := p1.ex
      refine ⟨Zp Z F1, O1, env1, I1, ?_⟩
      rw [er]
      exact fun cls d H' px => h cls d H' (PostX.after (v := v) (x := x) (q1 := q1) st1 px)
    | ok xs env2 q2 =>
      simp only [er] at h
      obtain ⟨O1, F1, I1, k⟩ := PostL.cons (q2 := q2) p1
      refine ⟨Zp Z F1, O1, env1, I1, ?_⟩
      rw [er]
      intro vs H2 p2
      cases x with
      | own m => exact h _ _ (k p2 fun z => nomatch z)
      | vw m =>
        cases q2 with
        | l => exact h.elim
        | p => exact h _ _ (k p2 fun _ z => nomatch z)
        | q => exact h _ _ (k p2 fun _ z => nomatch z)
theorem tul_nil {K : PySem.W.Frag} {mg : Str → Option Value} {W : WX} {σ : L2.St} {H : Hp} {R : List V → Hp → Prop} (h : TUL K mg W (evs []) σ H R) : R [] H := by
  obtain ⟨Z, O, env, I, h⟩ := h
  exact h _ _ (.nil I)
theorem sa_nil {X : Cx} : SA X (evs []) [] := fun W tk => PA.imp pa_nil fun σ H Q h => tul_nil h
theorem sa_cons {X : Cx} {f : Ev → Res} {fs : List (Ev → Res)} {e : Expr} {es : List Expr} (h1 : SE X f e) (h2 : SA X (evs fs) es) (hs : starEach (e :: es) X.env = (false, eval e X.env) :: starEach es X.env := by rfl) : SA X (evs (f :: fs)) (e :: es) := fun W tk =>
  PA.imp (pa_cons (h1 W tk) (h2 W tk) hs) fun σ H Q h => tu_cons h
theorem tu_two {K : PySem.W.Frag} {mg : Str → Option Value} {W : WX} {f g : Ev → Res} {σ : L2.St} {H : Hp} {R : V → V → Hp → Prop}
    (h : TUL K mg W (evs [f, g]) σ H fun vs H2 => ∀ v w, vs = [v, w] → R v w H2) : TU K mg W f σ H fun v H1 => TU K mg W g σ H1 fun w H2 => R v w H2 := by
  have mono : ∀ {f : Ev → Res} {σ H} {Q Q' : VK}, TU K mg W f σ H Q → (∀ v H', Q v H' → Q' v H') → TU K mg W f σ H Q' := fun {f σ H Q Q'} ⟨Z, O, env, I, h⟩ qq => by
    refine ⟨Z, O, env, I, ?_⟩
    cases e : f env with
    | stuck => rw [e] at h; exact h
    | exn c e1 => rw [e] at h; exact h
    | ok x e1 q => rw [e] at h; exact fun v H' p => qq v H' (h v H' p)
  refine mono (tu_cons h) fun v H1 h1 => ?_
  refine mono (tu_cons h1) fun w H2 h2 => ?_
  exact tul_nil h2 v w rfl
theorem tu_one {K : PySem.W.Frag} {mg : Str → Option Value} {W : WX} {f : Ev → Res} {σ : L2.St} {H : Hp} {R : V → Hp → Prop}
    (h : TUL K mg W (evs [f]) σ H fun vs H2 => ∀ v, vs = [v] → R v H2) : TU K mg W f σ H fun v H1 => R v H1 := by
  obtain ⟨Z, O, env, I, h'⟩ := tu_cons h
  refine ⟨Z, O, env, I, ?_⟩
  cases e : f env with
  | stuck => rw [e] at h'; exact h'
  | exn c e1 => rw [e] at h'; exact h'
  | ok x e1 q => rw [e] at h'; exact fun v H' p => tul_nil (h' v H' p) v rfl
end Q

set_option Elab.async false
set_option linter.all false
set_option maxRecDepth 100000
set_option maxHeartbeats 4000000
/-! Names, constants, operators. -/
namespace Q
open PySem PySem.Spec PyProof.Rows L2

section
variable {K : PySem.W.Frag} {mg : Str → Option Value} {H H' H1 H2 : Hp} {G G' Gv Gv' : Addr → Prop} {O O1 O2 F F1 F2 : List Addr} {Z : Addr → Prop} {env env1 env2 : Ev} {σ : L2.St}
/-! ### slots -/
theorem Slots.len : ∀ {env : Ev} {σ : L2.St} {Fs : List (List Addr)}, Slots K H G env σ Fs → env.length = σ.length ∧ Fs.length = σ.length
  | _, _, _, .nil => ⟨rfl, rfl⟩
  | _, _, _, .non r => by have := Slots.len r; simp [this]
  | _, _, _, .som _ r => by have := Slots.len r; simp [this]
theorem Slots.get : ∀ {env : Ev} {σ : L2.St} {Fs : List (List Addr)} {i : Nat} {m : M}, Slots K H G env σ Fs → env[i]? = some (some m) → ∃ v F, σ[i]? = some (some v) ∧ Fs[i]? = some F ∧ RM K H G v m F
  | _, _, _, 0, _, .non _, e => by simp at e
  | _, _, _, 0, _, .som h _, e => by simp at e; subst e; exact ⟨_, _, rfl, rfl, h⟩
  | _, _, _, i + 1, _, .non r, e => by
    obtain ⟨v, F, h1, h2, h3⟩ := Slots.get (i := i) r (by simpa using e)
    exact ⟨v, F, by simpa using h1, by simpa using h2, h3⟩
  | _, _, _, i + 1, _, .som _ r, e => by
    obtain ⟨v, F, h1, h2, h3⟩ := Slots.get (i := i) r (by simpa using e)
    exact ⟨v, F, by simpa using h1, by simpa using h2, h3⟩
theorem Slots.put : ∀ {env : Ev} {σ : L2.St} {Fs : List (List Addr)} {i : Nat} {m : M} {v : V} {F : List Addr}, Slots K H G env σ Fs → RM K H G v m F → Slots K H G (env.set i (some m)) (σ.set i (some v)) (Fs.set i F)
  | _, _, _, _, _, _, _, .nil, _ => .nil
  | _, _, _, 0, _, _, _, .non r, h => .som h r
  | _, _, _, 0, _, _, _, .som _ r, h => .som h r
  | _, _, _, i + 1, _, _, _, .non r, h => .non (Slots.put r h)
  | _, _, _, i + 1, _, _, _, .som h' r, h => .som h' (Slots.put r h)
/-- the same value, told otherwise -/
theorem Slots.put' : ∀ {env : Ev} {σ : L2.St} {Fs : List (List Addr)} {i : Nat} {m : M} {v : V} {F : List Addr}, Slots K H G env σ Fs → RM K H G v m F → σ[i]? = some (some v) → Slots K H G (env.set i (some m)) σ (Fs.set i F)
  | _, _, _, _, _, _, _, .nil, _, _ => .nil
  | _, _, _, 0, _, _, _, .non r, h, e => by simp at e; subst e; exact .som h r
  | _, _, _, 0, _, _, _, .som _ r, h, e => by simp at e; subst e; exact .som h r
  | _, _, _, i + 1, _, _, _, .non r, h, e => .non (Slots.put' r h (by simpa using e))
  | _, _, _, i + 1, _, _, _, .som h' r, h, e => .som h' (Slots.put' r h (by simpa using e))
theorem Slots.drop : ∀ {env : Ev} {σ : L2.St} {Fs : List (List Addr)} {i : Nat}, Slots K H G env σ Fs → Slots K H G (env.set i none) σ (Fs.set i [])
  | _, _, _, _, .nil => .nil
  | _, _, _, 0, .non r => .non r
  | _, _, _, 0, .som _ r => .non r
  | _, _, _, i + 1, .non r => .non (Slots.drop r)
  | _, _, _, i + 1, .som h' r => .som h' (Slots.drop r)
theorem mem_flat_set : ∀ {Fs : List (List Addr)} {i : Nat} {F : List Addr} {a : Addr}, a ∈ (Fs.set i F).flatten → a ∈ Fs.flatten ∨ a ∈ F
  | [], _, _, _, h => by simp at h
  | x :: r, 0, F, a, h => by
    simp only [List.set_cons_zero, List.flatten_cons, List.mem_append] at h ⊢
    rcases h with h | h
    · exact .inr h
    · exact .inl (.inr h)
  | x :: r, i + 1, F, a, h => by
    simp only [List.set_cons_succ, List.flatten_cons, List.mem_append] at h ⊢
    rcases h with h | h
    · exact .inl (.inl h)
    · rcases mem_flat_set h with h | h
      · exact .inl (.inr h)
      · exact .inr h
theorem mem_flat_at : ∀ {Fs : List (List Addr)} {i : Nat} {F : List Addr} {a : Addr}, Fs[i]? = some F → a ∈ F → a ∈ Fs.flatten
  | [], _, _, _, h, _ => by simp at h
  | x :: r, 0, F, a, h, ha => by simp at h; subst h; simp [ha]
  | x :: r, i + 1, F, a, h, ha => by
    have := mem_flat_at (i := i) (Fs := r) (by simpa using h) ha
    rw [List.flatten_cons]; exact List.mem_append_right _ this
/-- a slot's tree is replaced: what was its own, or what nobody owns -/
theorem nodup_flat_set : ∀ {Fs : List (List Addr)} {i : Nat} {F F' : List Addr}, Fs.flatten.Nodup → Fs[i]? = some F → F'.Nodup → (∀ a ∈ F', a ∈ F ∨ a ∉ Fs.flatten) → (Fs.set i F').flatten.Nodup
  | [], _, _, _, _, h, _, _ => by simp at h
  | x :: r, 0, F, F', nd, h, nd', hf => by
    simp at h; subst h
    simp only [List.set_cons_zero, List.flatten_cons] at nd ⊢
    obtain ⟨n1, n2, n3⟩ := List.nodup_append.mp nd
    refine List.nodup_append.mpr ⟨nd', n2, fun a ha b hb e => ?_⟩
    subst e
    rcases hf a ha with z | z
    · exact n3 a z a hb rfl
    · exact z (by rw [List.flatten_cons]; exact List.mem_append_right _ hb)
  | x :: r, i + 1, F, F', nd, h, nd', hf => by
    simp only [List.set_cons_succ, List.flatten_cons] at nd ⊢
    obtain ⟨n1, n2, n3⟩ := List.nodup_append.mp nd
    have h' : r[i]? = some F := by simpa using h
    refine List.nodup_append.mpr ⟨n1, nodup_flat_set n2 h' nd' fun a ha => ?_, fun a ha b hb e => ?_⟩
    · rcases hf a ha with z | z
      · exact .inl z
      · exact .inr fun q => z (by rw [List.flatten_cons]; exact List.mem_append_right _ q)
    · subst e
      rcases mem_flat_set hb with z | z
      · exact n3 a ha a z rfl
      · rcases hf a z with q | q
        · exact n3 a ha a (mem_flat_at h' q) rfl
        · exact q (by rw [List.flatten_cons]; exact List.mem_append_left _ ha)
theorem SI.get (I : SI K Z O env σ H) {i : Nat} {m : M} (e : env[i]? = some (some m)) : ∃ v F, σ[i]? = some (some v) ∧ RM K H (fun a => ¬ Z a ∧ a ∉ O) v m F ∧ (∀ a ∈ F, a ∈ O) := by
  obtain ⟨Fs, s, rfl⟩ := I.sl
  obtain ⟨v, F, h1, h2, h3⟩ := s.get e
  exact ⟨v, F, h1, h3, fun a ha => mem_flat_at h2 ha⟩
/-! ### what is left of a row of values -/
def valD : Val → Option PyData
  | .own m => frz m
  | .vw m => frz m
def valDs : List Val → Option (List PyData)
  | [] => some []
  | x :: xs => (valD x).bind fun d => (valDs xs).map fun ds => d :: ds
abbrev Top : Addr → Prop := fun _ => True
theorem RVs.data : ∀ {vs : List V} {xs : List Val} {F : List Addr} {ds : List PyData}, RVs K H G Gv vs xs F → valDs xs = some ds → RFs K H Top vs ds
  | _, _, _, ds, .nil, e => by unfold valDs at e; cases e; exact .nil
  | _, _, _, ds, .own h r, e => by
    unfold valDs at e
    obtain ⟨d, e1, e2⟩ := Option.bind_eq_some_iff.mp e
    obtain ⟨ds', e3, rfl⟩ := Option.map_eq_some_iff.mp e2
    exact .cons (h.freeze e1 (fun _ _ => trivial) fun _ _ => trivial) (RVs.data r e3)
  | _, _, _, ds, .vw h _ r, e => by
    unfold valDs at e
    obtain ⟨d, e1, e2⟩ := Option.bind_eq_some_iff.mp e
    obtain ⟨ds', e3, rfl⟩ := Option.map_eq_some_iff.mp e2
    exact .cons (h.freeze e1 (fun _ _ => trivial) fun _ _ => trivial) (RVs.data r e3)
/-- the values are dropped, a plain datum is left -/
theorem PostL.plain {vs : List V} {xs : List Val} {q : Ql} {v : V} {d : PyData} (p : PostL K Z O env σ H vs H' xs env1 q) (r : ∀ G, RF K H' G v d) : Post K Z O env σ H v H' (.own (.fz d)) env1 q := by
  obtain ⟨O', F, I, _, _, _, st, qu, pp⟩ := p.ex
  exact ⟨O', [], by rw [Zp_nil]; exact I.weak fun a z => .inl z, .own (.fz (r _)) .nil, List.Pairwise.nil, (fun _ z => nomatch z), st.weak (fun _ z => nomatch z), qu, fun e => ⟨(pp e).1, (pp e).2.1, rfl⟩⟩
/-- what is made of a row of values, the slots as they are -/
def dF (qf : Ql → Ql) (k : List Val → Option Val) (fs : List (Ev → Res)) : Ev → Res := fun env => match evs fs env with
  | .ok xs env' q => (match k xs with
    | some y => .ok y env' (qf q)
    | none => .stuck)
  | .exn c env' => .exn c env'
  | .stuck => .stuck
theorem evs_len : ∀ {fs : List (Ev → Res)} {env env' : Ev} {xs : List Val} {q : Ql}, evs fs env = .ok xs env' q → xs.length = fs.length
  | [], _, _, _, _, h => by unfold evs at h; cases h; rfl
  | f :: fs, env, env', xs, q, h => by
    unfold evs at h
    split at h
    · rename_i x env1 q1 e1
      split at h
      · rename_i xs2 env2 q2 e2
        have := evs_len e2
        split at h
        · cases h
        · cases h; simp [this]
      · cases h
      · cases h
    · cases h
    · cases h
theorem PostL.len {vs : List V} {xs : List Val} {q : Ql} (pl : PostL K Z O env σ H vs H' xs env1 q) : vs.length = xs.length := by
  obtain ⟨O', F, I, r, _⟩ := pl.ex
  exact r.length
theorem tul_F {W : WX} {qf : Ql → Ql} {k : List Val → Option Val} {fs : List (Ev → Res)} {R : List V → Hp → Prop} {Q : VK} (h : TU K mg W (dF qf k fs) σ H Q)
    (c : ∀ Z O env env' q xs y, SI K Z O env σ H → k xs = some y → xs.length = fs.length → ∀ vs H', PostL K Z O env σ H vs H' xs env' q → (∀ v'' H'', Post K Z O env σ H v'' H'' y env' (qf q) → Q v'' H'') → R vs H') : TUL K mg W (evs fs) σ H R := by
  obtain ⟨Z, O, env, I, h⟩ := h
  refine ⟨Z, O, env, I, ?_⟩
  unfold dF at h
  cases e : evs fs env with
  | stuck => rw [e] at h; exact h
  | exn c env' => rw [e] at h; exact h
  | ok xs env' q =>
    rw [e] at h
    intro vs H' p
    cases e2 : k xs with
    | none => simp only [e2] at h
    | some y =>
      simp only [e2] at h
      exact c Z O env env' q xs y I e2 (evs_len e) vs H' p h
/-- an operation upon data that hands back a plain datum -/
def kOp (op : List PyData → Option PyData) (xs : List Val) : Option Val := ((valDs xs).bind op).map fun d => .own (.fz d)
abbrev dOp (op : List PyData → Option PyData) : List (Ev → Res) → Ev → Res := dF id (kOp op)
theorem tul_op {W : WX} {op : List PyData → Option PyData} {fs : List (Ev → Res)} {R : List V → Hp → Prop} {Q : VK} (h : TU K mg W (dOp op fs) σ H Q)
    (k : ∀ vs H' ds d, RFs K H' Top vs ds → op ds = some d → (∀ v', (∀ G, RF K H' G v' d) → Q v' H') → R vs H') : TUL K mg W (evs fs) σ H R :=
  tul_F h fun Z O env env' q xs y I hk hl vs H' p kk => by
    obtain ⟨d, e2, rfl⟩ := Option.map_eq_some_iff.mp hk
    obtain ⟨ds, e3, e4⟩ := Option.bind_eq_some_iff.mp e2
    obtain ⟨O', F, I', r, _⟩ := p.ex
    exact k vs H' ds d (r.data e3) e4 fun v' rv => kk v' H' (p.plain rv)
end

/-! ### constants, names -/
def dLit (d : PyData) : Ev → Res := fun env => .ok (.own (.fz d)) env .p
theorem se_lit {X : Cx} {e : Expr} {v : V} {d : PyData} (h : PE X e (tC v)) (r : ∀ H G, RF X.K H G v d) : SE X (dLit d) e := fun W tk => PE.imp h fun σ H Q hq => by
  obtain ⟨Z, O, env, I, hq⟩ := hq
  exact hq _ _ ((PostL.nil I).plain (r H))
theorem se_int {X : Cx} {i j pos} : SE X (dLit (.int i)) (.Constant (.int i) j pos) := se_lit pe_int fun _ _ => .int i
theorem se_bl {X : Cx} {i j pos} : SE X (dLit (.bool i)) (.Constant (.bool i) j pos) := se_lit pe_bl fun _ _ => .bl i
theorem se_non {X : Cx} {j pos} : SE X (dLit .none) (.Constant .none j pos) := se_lit pe_non fun _ _ => .non
theorem se_str {X : Cx} {i j pos} : SE X (dLit (.str i)) (.Constant (.str i) j pos) := se_lit pe_str fun _ _ => .str i
/-- a module's constant: its data stand in the written part -/
def KD (K : PySem.W.Frag) (u : Value) (d : PyData) : Prop := ∃ v, RelV v u ∧ ∀ H G, RF K H G v d
theorem se_glob {X : Cx} {x : Str} {u : Value} {d : PyData} {pos : Pos} (hg : Gl X x) (hm : X.mg x = some u) (r : KD X.K u d) (hd : (x == ("__debug__" : Str)) = false := by decide) : SE X (dLit d) (.Name x pos) := by
  obtain ⟨v, rv, rd⟩ := r
  exact se_lit (pe_glob hg hm rv hd) rd
/-- a name, looked at -/
def dPk (i : Nat) : Ev → Res := fun env => match env[i]? with
  | some (some (.fz d)) => .ok (.own (.fz d)) env .p
  | some (some m) => .ok (.vw m) env .p
  | _ => .stuck
/-- a name whose value is handed on: frozen -/
def dTk (i : Nat) : Ev → Res := fun env => match env[i]? with
  | some (some (.fz d)) => .ok (.own (.fz d)) env .p
  | some (some m) => (match frz m with
    | some d => .ok (.own (.fz d)) (env.set i (some (.fz d))) .q
    | none => .stuck)
  | _ => .stuck
/-- a name whose value is given away: the name holds it no more -/
def dMv (i : Nat) : Ev → Res := fun env => match env[i]? with
  | some (some (.fz d)) => .ok (.own (.fz d)) env .p
  | some (some m) => .ok (.own m) (env.set i none) .q
  | _ => .stuck
section
variable {X : Cx} {i : Nat} {x : Str} {pos : Pos}
theorem own_pure {K : PySem.W.Frag} {Z : Addr → Prop} {O : List Addr} {env : Ev} {σ : L2.St} {H : Hp} {v : V} {d : PyData} (I : SI K Z O env σ H) (r : RF K H (fun a => ¬ Z a ∧ a ∉ O) v d) : Post K Z O env σ H v H (.own (.fz d)) env .p :=
  ⟨O, [], by rw [Zp_nil]; exact I, .own (.fz (r.imp fun a h => ⟨h.1, h.2, fun z => nomatch z⟩)) .nil, List.Pairwise.nil, (fun _ z => nomatch z), Step.refl, (fun _ _ _ e => e), (fun _ => ⟨rfl, rfl, rfl⟩)⟩
theorem vw_pure {K : PySem.W.Frag} {Z : Addr → Prop} {O F : List Addr} {env : Ev} {σ : L2.St} {H : Hp} {v : V} {m : M} (I : SI K Z O env σ H) (r : RM K H (fun a => ¬ Z a ∧ a ∉ O) v m F) (hf : ∀ a ∈ F, ¬ Z a) : Post K Z O env σ H v H (.vw m) env .p :=
  ⟨O, [], by rw [Zp_nil]; exact I, .vw (r.imp fun a h => ⟨h.1, h.2, fun z => nomatch z⟩) hf .nil, List.Pairwise.nil, (fun _ z => nomatch z), Step.refl, (fun _ _ _ e => e), (fun _ => ⟨rfl, rfl, rfl⟩)⟩
theorem RM.fzD {K : PySem.W.Frag} {H : Hp} {G : Addr → Prop} {v : V} {d : PyData} {F : List Addr} (r : RM K H G v (.fz d) F) : RF K H G v d ∧ F = [] := by
  cases r with
  | fz h => exact ⟨h, rfl⟩
theorem se_pk (hN : X.N[i]? = some x) (hv : Vis X.env.scope x) (hd : (x == ("__debug__" : Str)) = false := by decide) (hcd : (x == ("__classdict__" : Str)) = false := by decide) : SE X (dPk i) (.Name x pos) := fun W tk => PE.imp (pe_var hN hv hd hcd) fun σ H Q h => by
  obtain ⟨Z, O, env, I, h⟩ := h
  unfold dPk at h
  cases e : env[i]? with
  | none => simp only [e] at h
  | some y =>
    cases y with
    | none => simp only [e] at h
    | some m =>
      obtain ⟨v, F, h1, h2, h3⟩ := I.get e
      refine ⟨v, h1, ?_⟩
      cases m with
      | fz d =>
        simp only [e] at h
        exact h v H (own_pure I h2.fzD.1)
      | lst xs => simp only [e] at h; exact h v H (vw_pure I h2 fun a ha => I.nz a (h3 a ha))
      | tup xs => simp only [e] at h; exact h v H (vw_pure I h2 fun a ha => I.nz a (h3 a ha))
      | dK ks xs => simp only [e] at h; exact h v H (vw_pure I h2 fun a ha => I.nz a (h3 a ha))
      | dT ks xs => simp only [e] at h; exact h v H (vw_pure I h2 fun a ha => I.nz a (h3 a ha))
/-- a slot's tree is frozen -/
theorem SI.freeze {K : PySem.W.Frag} {Z : Addr → Prop} {O : List Addr} {env : Ev} {σ : L2.St} {H : Hp} {i : Nat} {m : M} {d : PyData} (I : SI K Z O env σ H) (e : env[i]? = some (some m)) (f : frz m = some d) :
    ∃ O' v, σ[i]? = some (some v) ∧ SI K Z O' (env.set i (some (.fz d))) σ H ∧ RF K H (fun a => ¬ Z a ∧ a ∉ O') v d ∧ Step O H O' [] H := by
  obtain ⟨Fs, s, rfl⟩ := I.sl
  obtain ⟨v, F, h1, h2, h3⟩ := s.get e
  have sub : ∀ a, a ∈ (Fs.set i ([] : List Addr)).flatten → a ∈ Fs.flatten := fun a ha => (mem_flat_set ha).elim id fun z => nomatch z
  have nd : (Fs.set i ([] : List Addr)).flatten.Nodup := nodup_flat_set I.nd h2 List.Pairwise.nil fun _ z => nomatch z
  have nf : ∀ a ∈ F, a ∉ (Fs.set i ([] : List Addr)).flatten := fun a ha => by
    have key : ∀ {Fs : List (List Addr)} {i : Nat}, Fs.flatten.Nodup → Fs[i]? = some F → a ∉ (Fs.set i ([] : List Addr)).flatten := by
      intro Fs
      induction Fs with
      | nil => intro i _ h; simp at h
      | cons y r ih =>
        intro i nd h
        rw [List.flatten_cons] at nd
        obtain ⟨n1, n2, n3⟩ := List.nodup_append.mp nd
        cases i with
        | zero =>
          simp at h; subst h
          simp only [List.set_cons_zero, List.flatten_cons, List.nil_append]
          exact fun z => n3 a ha a z rfl
        | succ i =>
          have h' : r[i]? = some F := by simpa using h
          simp only [List.set_cons_succ, List.flatten_cons, List.mem_append, not_or]
          exact ⟨fun z => n3 a z a (mem_flat_at h' ha) rfl, ih n2 h'⟩
    exact key I.nd h2
  have rf : RF K H (fun a => ¬ Z a ∧ a ∉ (Fs.set i ([] : List Addr)).flatten) v d := h3.freeze f (fun a h => ⟨h.1, fun z => h.2 (sub a z)⟩) fun a ha => ⟨I.nz a (mem_flat_at h2 ha), nf a ha⟩
  refine ⟨_, v, h1, ⟨⟨_, (s.imp fun a h => ⟨h.1, fun z => h.2 (sub a z)⟩).put' (.fz rf) h1, rfl⟩, nd, fun a ha => I.nz a (sub a ha), I.zt⟩, rf, ⟨fun a o n q => ⟨q, fun z => n (sub a z), fun z => nomatch z⟩⟩⟩
theorem se_tk (hN : X.N[i]? = some x) (hv : Vis X.env.scope x) (hd : (x == ("__debug__" : Str)) = false := by decide) (hcd : (x == ("__classdict__" : Str)) = false := by decide) : SE X (dTk i) (.Name x pos) := fun W tk => PE.imp (pe_var hN hv hd hcd) fun σ H Q h => by
  obtain ⟨Z, O, env, I, h⟩ := h
  unfold dTk at h
  cases e : env[i]? with
  | none => simp only [e] at h
  | some y =>
    cases y with
    | none => simp only [e] at h
    | some m =>
      have go : ∀ d, frz m = some d → (∀ v H', Post X.K Z O env σ H v H' (.own (.fz d)) (env.set i (some (.fz d))) .q → Q v H') → tVar i σ H Q := fun d f k => by
        obtain ⟨O', v, h1, I', rf, st⟩ := I.freeze e f
        exact ⟨v, h1, k v H ⟨O', [], by rw [Zp_nil]; exact I', .own (.fz (rf.imp fun a h => ⟨h.1, h.2, fun z => nomatch z⟩)) .nil, List.Pairwise.nil, (fun _ z => nomatch z), st, (fun _ _ _ e => e), fun z => nomatch z⟩⟩
      cases m with
      | fz d =>
        simp only [e] at h
        obtain ⟨v, F, h1, h2, h3⟩ := I.get e
        exact ⟨v, h1, h v H (own_pure I h2.fzD.1)⟩
      | lst xs =>
        simp only [e] at h
        cases f : frz (.lst xs) with
        | none => simp only [f] at h
        | some d => simp only [f] at h; exact go d f h
      | tup xs =>
        simp only [e] at h
        cases f : frz (.tup xs) with
        | none => simp only [f] at h
        | some d => simp only [f] at h; exact go d f h
      | dK ks xs => simp only [e, frz] at h
      | dT ks xs => simp only [e, frz] at h
/-- a slot's tree is taken out -/
theorem SI.take {K : PySem.W.Frag} {Z : Addr → Prop} {O : List Addr} {env : Ev} {σ : L2.St} {H : Hp} {i : Nat} {m : M} (I : SI K Z O env σ H) (e : env[i]? = some (some m)) :
    ∃ O' v F, σ[i]? = some (some v) ∧ SI K (Zp Z F) O' (env.set i none) σ H ∧ RM K H (fun a => ¬ Z a ∧ a ∉ O' ∧ a ∉ F) v m F ∧ F.Nodup ∧ (∀ a ∈ F, ¬ Z a) ∧ Step O H O' F H := by
  obtain ⟨Fs, s, rfl⟩ := I.sl
  obtain ⟨v, F, h1, h2, h3⟩ := s.get e
  have sub : ∀ a, a ∈ (Fs.set i ([] : List Addr)).flatten → a ∈ Fs.flatten := fun a ha => (mem_flat_set ha).elim id fun z => nomatch z
  have nd : (Fs.set i ([] : List Addr)).flatten.Nodup := nodup_flat_set I.nd h2 List.Pairwise.nil fun _ z => nomatch z
  have both : F.Nodup ∧ ∀ a ∈ F, a ∉ (Fs.set i ([] : List Addr)).flatten := by
    have key : ∀ {Fs : List (List Addr)} {i : Nat}, Fs.flatten.Nodup → Fs[i]? = some F → F.Nodup ∧ ∀ a ∈ F, a ∉ (Fs.set i ([] : List Addr)).flatten := by
      intro Fs
      induction Fs with
      | nil => intro i _ h; simp at h
      | cons y r ih =>
        intro i nd h
        rw [List.flatten_cons] at nd
        obtain ⟨n1, n2, n3⟩ := List.nodup_append.mp nd
        cases i with
        | zero =>
          simp at h; subst h
          simp only [List.set_cons_zero, List.flatten_cons, List.nil_append]
          exact ⟨n1, fun a ha z => n3 a ha a z rfl⟩
        | succ i =>
          have h' : r[i]? = some F := by simpa using h
          simp only [List.set_cons_succ, List.flatten_cons, List.mem_append, not_or]
          exact ⟨(ih n2 h').1, fun a ha => ⟨fun z => n3 a z a (mem_flat_at h' ha) rfl, (ih n2 h').2 a ha⟩⟩
    exact key I.nd h2
  refine ⟨_, v, F, h1, ⟨⟨_, (s.imp (G' := fun a => ¬ Zp Z F a ∧ a ∉ (Fs.set i ([] : List Addr)).flatten) fun a h => ⟨fun z => z.elim h.1 fun z => h.2 (mem_flat_at h2 z), fun z => h.2 (sub a z)⟩).drop, rfl⟩, nd, fun a ha z => z.elim (I.nz a (sub a ha)) fun z => both.2 a z ha, fun a z => z.elim (I.zt a) fun z => (h3.owd a z).imp fun o e => e.1⟩,
    h3.imp fun a h => ⟨h.1, fun z => h.2 (sub a z), fun z => h.2 (mem_flat_at h2 z)⟩, both.1, fun a ha => I.nz a (mem_flat_at h2 ha), ⟨fun a o n q => ⟨q, fun z => n (sub a z), fun z => n (mem_flat_at h2 z)⟩⟩⟩
theorem se_mv (hN : X.N[i]? = some x) (hv : Vis X.env.scope x) (hd : (x == ("__debug__" : Str)) = false := by decide) (hcd : (x == ("__classdict__" : Str)) = false := by decide) : SE X (dMv i) (.Name x pos) := fun W tk => PE.imp (pe_var hN hv hd hcd) fun σ H Q h => by
  obtain ⟨Z, O, env, I, h⟩ := h
  unfold dMv at h
  cases e : env[i]? with
  | none => simp only [e] at h
  | some y =>
    cases y with
    | none => simp only [e] at h
    | some m =>
      have go : (∀ v H', Post X.K Z O env σ H v H' (.own m) (env.set i none) .q → Q v H') → tVar i σ H Q := fun k => by
        obtain ⟨O', v, F, h1, I', rm, nd, nz, st⟩ := I.take e
        exact ⟨v, h1, k v H ⟨O', F, I', by simpa using RVs.own rm .nil, nd, nz, st, (fun _ _ _ e => e), fun z => nomatch z⟩⟩
      cases m with
      | fz d =>
        simp only [e] at h
        obtain ⟨v, F, h1, h2, h3⟩ := I.get e
        exact ⟨v, h1, h v H (own_pure I h2.fzD.1)⟩
      | lst xs => simp only [e] at h; exact go h
      | tup xs => simp only [e] at h; exact go h
      | dK ks xs => simp only [e] at h; exact go h
      | dT ks xs => simp only [e] at h; exact go h
end

/-! ### operators -/
/-- an operator upon data, by its rule -/
def OpD (X : Cx) (f : Value → Value → Sem Value) (op : List PyData → Option PyData) : Prop :=
  ∃ r, OpR X f r ∧ ∀ v w H Q ds d, RFs X.K H Top [v, w] ds → op ds = some d → (∀ v', (∀ G, RF X.K H G v' d) → Q v' H) → r v w H Q
theorem OpD.or {X : Cx} {f : Value → Value → Sem Value} {o1 o2 : List PyData → Option PyData} (h1 : OpD X f o1) (h2 : OpD X f o2) : OpD X f (fun ds => (o1 ds).orElse fun _ => o2 ds) := by
  obtain ⟨r1, a1, b1⟩ := h1
  obtain ⟨r2, a2, b2⟩ := h2
  refine ⟨_, a1.or a2, fun v w H Q ds d hd he k => ?_⟩
  have he : (o1 ds).orElse (fun _ => o2 ds) = some d := he
  cases e : o1 ds with
  | some d2 =>
    rw [e] at he
    obtain rfl : d2 = d := Option.some.inj he
    exact .inl (b1 v w H Q ds d2 hd e k)
  | none =>
    rw [e] at he
    exact .inr (b2 v w H Q ds d hd he k)
theorem se_bin {X : Cx} {op : Operator} {o : List PyData → Option PyData} {f g : Ev → Res} {a b : Expr} {pos : Pos} (ho : OpD X (binaryOp op) o) (ha : SE X f a) (hb : SE X g b) : SE X (dOp o [f, g]) (.BinOp a op b pos) := fun W tk => by
  obtain ⟨r, h1, h2⟩ := ho
  refine PE.imp (pe_op h1 (ha W tk) (hb W tk)) fun σ H Q h => tu_two (tul_op h fun vs H' ds d hd he k v w ev => ?_)
  subst ev
  exact h2 v w H' Q ds d hd he k
theorem se_cmp {X : Cx} {op : CmpOp} {o : List PyData → Option PyData} {f g : Ev → Res} {a b : Expr} {pos : Pos} (ho : OpD X (compareOp op) o) (ha : SE X f a) (hb : SE X g b) (hm : behindInMarks op b = false) : SE X (dOp o [f, g]) (.Compare a [op] [b] pos) := fun W tk => by
  obtain ⟨r, h1, h2⟩ := ho
  refine PE.imp (pe_cmpR h1 (ha W tk) (hb W tk) hm) fun σ H Q h => tu_two (tul_op h fun vs H' ds d hd he k v w ev => ?_)
  subst ev
  exact h2 v w H' Q ds d hd he k
def UnD (X : Cx) (f : Value → Sem Value) (op : List PyData → Option PyData) : Prop :=
  ∃ r, UnR X f r ∧ ∀ v H Q ds d, RFs X.K H Top [v] ds → op ds = some d → (∀ v', (∀ G, RF X.K H G v' d) → Q v' H) → r v H Q
theorem se_un {X : Cx} {op : UnaryOp} {o : List PyData → Option PyData} {f : Ev → Res} {a : Expr} {pos : Pos} (ho : UnD X (unaryOp op) o) (ha : SE X f a) : SE X (dOp o [f]) (.UnaryOp op a pos) := fun W tk => by
  obtain ⟨r, h1, h2⟩ := ho
  refine PE.imp (pe_un h1 (ha W tk)) fun σ H Q h => tu_one (tul_op h fun vs H' ds d hd he k v ev => ?_)
  subst ev
  exact h2 v H' Q ds d hd he k
/-- two ints -/
theorem RFs.two {K : PySem.W.Frag} {H : Hp} {G : Addr → Prop} {v w : V} {a b : PyData} (r : RFs K H G [v, w] [a, b]) : RF K H G v a ∧ RF K H G w b := by
  cases r with
  | cons h r =>
    cases r with
    | cons h' _ => exact ⟨h, h'⟩
theorem RFs.one {K : PySem.W.Frag} {H : Hp} {G : Addr → Prop} {v : V} {a : PyData} (r : RFs K H G [v] [a]) : RF K H G v a := by
  cases r with
  | cons h _ => exact h
theorem RF.intI {K : PySem.W.Frag} {H : Hp} {G : Addr → Prop} {v : V} {i : Int} (r : RF K H G v (.int i)) : v = .int i := by cases r; rfl
theorem RF.strI {K : PySem.W.Frag} {H : Hp} {G : Addr → Prop} {v : V} {i : Str} (r : RF K H G v (.str i)) : v = .str i := by cases r; rfl
theorem RF.blI {K : PySem.W.Frag} {H : Hp} {G : Addr → Prop} {v : V} {i : Bool} (r : RF K H G v (.bool i)) : v = .bl i := by cases r; rfl
theorem RF.nonI {K : PySem.W.Frag} {H : Hp} {G : Addr → Prop} {v : V} (r : RF K H G v .none) : v = .non := by cases r; rfl
/-- ints, with a condition -/
def oI2 (c : Int → Int → Bool) (g : Int → Int → Int) : List PyData → Option PyData
  | [.int i, .int j] => if c i j = true then some (.int (g i j)) else none
  | _ => none
def oI2b (g : Int → Int → Bool) : List PyData → Option PyData
  | [.int i, .int j] => some (.bool (g i j))
  | _ => none
def oS2b (g : Str → Str → Bool) : List PyData → Option PyData
  | [.str i, .str j] => some (.bool (g i j))
  | _ => none
theorem opd_I2 {X : Cx} {f : Value → Value → Sem Value} {C : Int → Int → Prop} {c : Int → Int → Bool} {g : Int → Int → Int} (h : OpR X f (rI C fun i j => .int (g i j))) (hc : ∀ i j, c i j = true → C i j) : OpD X f (oI2 c g) := by
  refine ⟨_, h, fun v w H Q ds d hd he k => ?_⟩
  unfold oI2 at he
  split at he
  · rename_i i j
    split at he
    · rename_i hij
      cases he
      obtain ⟨r1, r2⟩ := hd.two
      exact ⟨i, j, r1.intI, r2.intI, hc i j hij, k _ fun G => .int _⟩
    · cases he
  · cases he
theorem opd_I0 {X : Cx} {f : Value → Value → Sem Value} {g : Int → Int → Int} (h : OpR X f (rI0 fun i j => .int (g i j))) : OpD X f (oI2 (fun _ _ => true) g) := by
  refine ⟨_, h, fun v w H Q ds d hd he k => ?_⟩
  unfold oI2 at he
  split at he
  · rename_i i j
    rw [if_pos rfl] at he
    cases he
    obtain ⟨r1, r2⟩ := hd.two
    exact ⟨i, j, r1.intI, r2.intI, k _ fun G => .int _⟩
  · cases he
theorem opd_Ib {X : Cx} {f : Value → Value → Sem Value} {g : Int → Int → Bool} (h : OpR X f (rI0 fun i j => .bl (g i j))) : OpD X f (oI2b g) := by
  refine ⟨_, h, fun v w H Q ds d hd he k => ?_⟩
  unfold oI2b at he
  split at he
  · rename_i i j
    cases he
    obtain ⟨r1, r2⟩ := hd.two
    exact ⟨i, j, r1.intI, r2.intI, k _ fun G => .bl _⟩
  · cases he
theorem opd_Sb {X : Cx} {f : Value → Value → Sem Value} {g : Str → Str → Bool} (h : OpR X f (fun x y H Q => ∃ i j, x = .str i ∧ y = .str j ∧ Q (.bl (g i j)) H)) : OpD X f (oS2b g) := by
  refine ⟨_, h, fun v w H Q ds d hd he k => ?_⟩
  unfold oS2b at he
  split at he
  · rename_i i j
    cases he
    obtain ⟨r1, r2⟩ := hd.two
    exact ⟨i, j, r1.strI, r2.strI, k _ fun G => .bl _⟩
  · cases he
abbrev oSub := oI2 (fun _ _ => true) fun i j => i - j
/-- together below a million bits -/
def mulOk (i j : Int) : Bool := decide (i.natAbs.log2 + j.natAbs.log2 < 1000000)
abbrev oMulI := oI2 mulOk fun i j => i * j
def divOk (_ j : Int) : Bool := decide (j ≠ 0) && decide (j.natAbs.log2 < 9000)
abbrev oFdiv := oI2 divOk Int.fdiv
abbrev oMod := oI2 (fun _ j => decide (j ≠ 0)) Int.fmod
section
variable {X : Cx}
theorem opd_sub : OpD X (binaryOp .Sub) oSub := opd_I0 op_sub
theorem opd_mulI : OpD X (binaryOp .Mult) oMulI := opd_I2 op_mulW fun i j h => (of_decide_eq_true (show decide (i.natAbs.log2 + j.natAbs.log2 < 1000000) = true from h) : i.natAbs.log2 + j.natAbs.log2 < 1000000)
theorem op_fdivWN : OpR X (binaryOp .FloorDiv) (rI (fun i j => j ≠ 0 ∧ j.natAbs.log2 < 9000) fun i j => .int (i.fdiv j)) := opI fun i j _ _ _ _ _ hc q => floordiv_int hc.1 q (.inl (PyProof.noPylong_of_log2 hc.2))
theorem opd_fdiv : OpD X (binaryOp .FloorDiv) oFdiv := opd_I2 op_fdivWN fun i j h => by
  unfold divOk at h
  rw [Bool.and_eq_true] at h
  exact ⟨of_decide_eq_true h.1, of_decide_eq_true h.2⟩
theorem opd_mod : OpD X (binaryOp .Mod) oMod := opd_I2 op_modN fun i j h => of_decide_eq_true h
theorem opd_lt : OpD X (compareOp .Lt) (oI2b fun i j => decide (i < j)) := opd_Ib op_lt
theorem opd_le : OpD X (compareOp .LtE) (oI2b fun i j => decide (i ≤ j)) := opd_Ib op_le
theorem opd_gt : OpD X (compareOp .Gt) (oI2b fun i j => decide (j < i)) := opd_Ib op_gt
theorem opd_ge : OpD X (compareOp .GtE) (oI2b fun i j => decide (j ≤ i)) := opd_Ib op_ge
end
end Q

set_option Elab.async false
set_option linter.all false
set_option maxRecDepth 100000
set_option maxHeartbeats 4000000
/-! Displays, items, slices, tests. -/
namespace Q
open PySem PySem.Spec PyProof.Rows L2

section
variable {K : PySem.W.Frag} {mg : Str → Option Value} {H H' H1 H2 : Hp} {G G' Gv Gv' : Addr → Prop} {O O1 O2 F F1 F2 : List Addr} {Z : Addr → Prop} {env env1 env2 : Ev} {σ : L2.St}
/-! ### a new thing -/
theorem upd_keep {H : Hp} {p : Addr} {o : HO} (hn : H p = none) : ∀ a o', H a = some o' → upd H p o a = some o' := fun a o' e => by
  rw [upd_ne (ne_of_none e hn)]; exact e
theorem Slots.grow : ∀ {env : Ev} {σ : L2.St} {Fs : List (List Addr)}, Slots K H G env σ Fs → (∀ a o, H a = some o → H' a = some o) → Slots K H' G env σ Fs
  | _, _, _, .nil, _ => .nil
  | _, _, _, .non r, k => .non (Slots.grow r k)
  | _, _, _, .som h r, k => .som (h.step (O := []) (fun _ z => nomatch z) (fun _ _ z => nomatch z) (fun _ _ z => nomatch z) (fun a o _ e => k a o e) fun a _ g _ => g) (Slots.grow r k)
theorem SI.grow (I : SI K Z O env σ H) (k : ∀ a o, H a = some o → H' a = some o) : SI K Z O env σ H' := by
  obtain ⟨Fs, s, e⟩ := I.sl
  exact ⟨⟨Fs, s.grow k, e⟩, I.nd, I.nz, fun a z => (I.zt a z).imp fun o q => k a o q⟩
theorem RM.grow {v : V} {m : M} (r : RM K H G v m F) (k : ∀ a o, H a = some o → H' a = some o) : RM K H' G v m F :=
  r.step (O := []) (fun _ z => nomatch z) (fun _ _ z => nomatch z) (fun _ _ z => nomatch z) (fun a o _ e => k a o e) fun a _ g _ => g
theorem RMs.grow {vs : List V} {ms : List M} (r : RMs K H G vs ms F) (k : ∀ a o, H a = some o → H' a = some o) : RMs K H' G vs ms F :=
  r.step (O := []) (fun _ z => nomatch z) (fun _ _ z => nomatch z) (fun _ _ z => nomatch z) (fun a o _ e => k a o e) fun a _ g _ => g
theorem RMs.imp {vs : List V} {ms : List M} (r : RMs K H G vs ms F) (gg : ∀ a, G a → G' a) : RMs K H G' vs ms F :=
  r.step (O := []) (fun _ z => nomatch z) (fun _ _ z => nomatch z) (fun _ _ z => nomatch z) (fun _ _ _ z => z) fun a _ g _ => gg a g
theorem RF.grow {v : V} {d : PyData} (r : RF K H G v d) (k : ∀ a o, H a = some o → H' a = some o) : RF K H' G v d :=
  r.step (O := []) (fun _ z => nomatch z) (fun _ _ z => nomatch z) (fun a o _ e => k a o e) fun a _ g _ => g
theorem RFs.grow {vs : List V} {ds : List PyData} (r : RFs K H G vs ds) (k : ∀ a o, H a = some o → H' a = some o) : RFs K H' G vs ds :=
  r.step (O := []) (fun _ z => nomatch z) (fun _ _ z => nomatch z) (fun a o _ e => k a o e) fun a _ g _ => g
def owns : List Val → Option (List M)
  | [] => some []
  | .own m :: xs => (owns xs).map fun ms => m :: ms
  | .vw _ :: _ => none
theorem RVs.ms : ∀ {vs : List V} {xs : List Val} {F : List Addr} {ms : List M}, RVs K H G Gv vs xs F → owns xs = some ms → RMs K H G vs ms F
  | _, _, _, ms, .nil, e => by unfold owns at e; cases e; exact .nil
  | _, _, _, ms, .own h r, e => by
    unfold owns at e
    obtain ⟨ms', e1, rfl⟩ := Option.map_eq_some_iff.mp e
    exact .cons h (RVs.ms r e1)
  | _, _, _, ms, .vw _ _ _, e => by unfold owns at e; cases e
/-- all of it frozen -/
def leaves : List M → Option (List PyData)
  | [] => some []
  | .fz d :: ms => (leaves ms).map fun ds => d :: ds
  | _ :: _ => none
theorem RMs.leaf : ∀ {vs : List V} {ms : List M} {F : List Addr} {ds : List PyData}, RMs K H G vs ms F → leaves ms = some ds → RFs K H G vs ds ∧ F = []
  | _, _, _, ds, .nil, e => by unfold leaves at e; cases e; exact ⟨.nil, rfl⟩
  | _, _, _, ds, .cons (m := m) h r, e => by
    cases m with
    | fz d =>
      unfold leaves at e
      obtain ⟨ds', e1, rfl⟩ := Option.map_eq_some_iff.mp e
      obtain ⟨h1, rfl⟩ := h.fzD
      obtain ⟨h2, rfl⟩ := RMs.leaf r e1
      exact ⟨.cons h1 h2, rfl⟩
    | lst xs => unfold leaves at e; cases e
    | tup xs => unfold leaves at e; cases e
    | dK ks xs => unfold leaves at e; cases e
    | dT ks xs => unfold leaves at e; cases e
theorem RFs.tms : ∀ {vs : List V} {ds : List PyData}, RFs K H G vs ds → RMs K H G vs (ds.map M.fz) []
  | _, _, .nil => .nil
  | _, _, .cons h r => by simpa using RMs.cons (.fz h) (RFs.tms r)
def mkTup (ms : List M) : M := match leaves ms with
  | some ds => .fz (.tuple ds)
  | none => .tup ms
theorem RM.ofTup {a : Addr} {vs : List V} {ms : List M} (h : SqN K H a vs) (r : RMs K H G vs ms F) : RM K H G (.ref a) (mkTup ms) F := by
  unfold mkTup
  cases e : leaves ms with
  | none => exact .tup h r
  | some ds =>
    obtain ⟨h1, rfl⟩ := r.leaf e
    exact .fz (.tup h h1)
def Ql.n : Ql → Ql
  | .l => .l
  | _ => .q
theorem qn_l {q : Ql} (h : q.n ≠ .l) : q ≠ .l := fun e => h (by rw [e]; rfl)
theorem qn_p {q : Ql} (h : q.n = .p) : False := by cases q <;> cases h
/-- a new tuple of the values -/
theorem PostL.newT {vs : List V} {xs : List Val} {ms : List M} {q : Ql} {p : Addr} (pl : PostL K Z O env σ H vs H' xs env1 q) (eo : owns xs = some ms) (hn : H' p = none) {o : Obj} (ho : o.dict = none) : Post K Z O env σ H (.ref p) (upd H' p (TF o vs)) (.own (mkTup ms)) env1 q.n := by
  obtain ⟨O', F, I, r, nd, nz, st, qu, pp⟩ := pl.ex
  have k := upd_keep (o := TF o vs) hn
  refine ⟨O', F, I.grow k, by simpa using RVs.own (F := F) (RM.ofTup (.inl ⟨o, upd_same, ho⟩) ((r.ms eo).grow k)) .nil, nd, nz, ⟨fun a o n e => ?_⟩, fun z a o e => k a o (qu (qn_l z) a o e), fun z => (qn_p z).elim⟩
  obtain ⟨e1, n1, n2⟩ := st.keep a o n e
  exact ⟨k a o e1, n1, n2⟩
/-- a new owned list of the values -/
theorem PostL.newL {vs : List V} {xs : List Val} {ms : List M} {q : Ql} {p : Addr} (pl : PostL K Z O env σ H vs H' xs env1 q) (eo : owns xs = some ms) (hn : H' p = none) : Post K Z O env σ H (.ref p) (upd H' p (.lst vs)) (.own (.lst ms)) env1 q.n := by
  obtain ⟨O', F, I, r, nd, nz, st, qu, pp⟩ := pl.ex
  have k := upd_keep (o := .lst vs) hn
  have rm := (r.ms eo)
  have nf : p ∉ F := fun z => by
    obtain ⟨o, e, _⟩ := rm.owd p z
    rw [hn] at e; cases e
  have nO : p ∉ O' := fun z => by
    obtain ⟨o, e, _⟩ := I.owd p z
    rw [hn] at e; cases e
  have nZ : ¬ Z p := fun z => by
    obtain ⟨o, e⟩ := I.zt p (.inl z)
    rw [hn] at e; cases e
  have I2 : SI K (Zp Z (p :: F)) O' env1 σ (upd H' p (.lst vs)) := by
    obtain ⟨Fs, s, e⟩ := (I.grow k).sl
    have alive : ∀ a, (¬ Zp Z F a ∧ a ∉ O') → True := fun _ _ => trivial
    have key : ∀ {env : Ev} {σ : L2.St} {Fs : List (List Addr)}, Slots K H' (fun a => ¬ Zp Z F a ∧ a ∉ O') env σ Fs → Slots K (upd H' p (.lst vs)) (fun a => ¬ Zp Z (p :: F) a ∧ a ∉ O') env σ Fs := by
      intro env σ Fs s
      induction s with
      | nil => exact .nil
      | non _ ih => exact .non ih
      | som h _ ih =>
        refine .som (h.step (O := []) (fun _ z => nomatch z) (fun _ _ z => nomatch z) (fun _ _ z => nomatch z) (fun a o _ e => k a o e) fun a o g e => ⟨fun z => ?_, g.2⟩) ih
        rcases z with z | z
        · exact g.1 (.inl z)
        · rcases List.mem_cons.mp z with z | z
          · rw [z, hn] at e; cases e
          · exact g.1 (.inr z)
    obtain ⟨Fs, s, e⟩ := I.sl
    refine ⟨⟨Fs, key s, e⟩, I.nd, fun a ha z => ?_, fun a z => ?_⟩
    · rcases z with z | z
      · exact I.nz a ha (.inl z)
      · rcases List.mem_cons.mp z with z | z
        · exact nO (z ▸ ha)
        · exact I.nz a ha (.inr z)
    · rcases z with z | z
      · exact (I.zt a (.inl z)).imp fun o q => k a o q
      · rcases List.mem_cons.mp z with z | z
        · exact ⟨_, by rw [z]; exact upd_same⟩
        · exact (I.zt a (.inr z)).imp fun o q => k a o q
  refine ⟨O', p :: F, I2, ?_, List.nodup_cons.mpr ⟨nf, nd⟩, fun a ha => ?_, ⟨fun a o n e => ?_⟩, fun z a o e => k a o (qu (qn_l z) a o e), fun z => (qn_p z).elim⟩
  · have h := RVs.own (G := fun a => ¬ Z a ∧ a ∉ O' ∧ a ∉ p :: F) (Gv := fun a => ¬ Z a) (RM.lst (G := fun a => ¬ Z a ∧ a ∉ O' ∧ a ∉ p :: F) (upd_same (H := H') (a := p) (o := .lst vs)) (rm.step (O := []) (H' := upd H' p (.lst vs)) (G' := fun a => ¬ Z a ∧ a ∉ O' ∧ a ∉ p :: F) (fun _ z => nomatch z) (fun _ _ z => nomatch z) (fun _ _ z => nomatch z) (fun a o _ e => k a o e) fun a o g e => ⟨g.1, g.2.1, fun z => ?_⟩)) .nil
    · simpa using h
    · rcases List.mem_cons.mp z with z | z
      · rw [z, hn] at e; cases e
      · exact g.2.2 z
  · rcases List.mem_cons.mp ha with z | z
    · rw [z]; exact nZ
    · exact nz a z
  · obtain ⟨e1, n1, n2⟩ := st.keep a o n e
    refine ⟨k a o e1, n1, fun z => ?_⟩
    rcases List.mem_cons.mp z with z | z
    · rw [z, hn] at e1; cases e1
    · exact n2 z
end
def kMk (mk : List M → M) (xs : List Val) : Option Val := (owns xs).map fun ms => .own (mk ms)
abbrev dTup := dF Ql.n (kMk mkTup)
abbrev dLst := dF Ql.n (kMk M.lst)
theorem small_sz {n : Nat} (h : n ≤ 1000) : n ≤ sizeLine := by rw [sizeLine_eq]; omega
theorem se_tup {X : Cx} {fs : List (Ev → Res)} {es : List Expr} {x1 : Nat} {pos : Pos} (h : SA X (evs fs) es) (hl : fs.length ≤ 1000 := by decide) : SE X (dTup fs) (.Tuple es x1 pos) := fun W tk =>
  PE.imp (pe_tupX (h W tk)) fun σ H Q hq => tul_F hq fun Z O env env' q xs y I hk el vs H' p k => by
    obtain ⟨ms, eo, rfl⟩ := Option.map_eq_some_iff.mp hk
    exact ⟨by rw [p.len, el]; exact small_sz hl, fun a o hn ho => k _ _ (p.newT eo hn ho)⟩
theorem se_lst {X : Cx} {fs : List (Ev → Res)} {es : List Expr} {pos : Pos} (h : SA X (evs fs) es) (hl : fs.length ≤ 1000 := by decide) : SE X (dLst fs) (.List es pos) := fun W tk =>
  PE.imp (pe_lst (h W tk)) fun σ H Q hq => tul_F hq fun Z O env env' q xs y I hk el vs H' p k => by
    obtain ⟨ms, eo, rfl⟩ := Option.map_eq_some_iff.mp hk
    exact ⟨by rw [p.len, el]; exact small_sz hl, fun a hn => k _ _ (p.newL eo hn)⟩

/-! ### items -/
def mkVw : M → Val
  | .fz d => .own (.fz d)
  | m => .vw m
/-- x[k] -/
def ixV : Val → Int → Option Val
  | .own (.fz (.tuple ds)), i => (atI ds i).map fun d => .own (.fz d)
  | .own (.fz (.list ds)), i => (atI ds i).map fun d => .own (.fz d)
  | .own (.fz (.str z)), i => if z.length ≤ sizeLine then (atI z.cps.toList i).map fun c => .own (.fz (.str ⟨#[c]⟩)) else none
  | .own (.lst ms), i => (atI ms i).map .own
  | .own (.tup ms), i => (atI ms i).map .own
  | .vw (.lst ms), i => (atI ms i).map mkVw
  | .vw (.tup ms), i => (atI ms i).map mkVw
  | _, _ => none
def kIx : List Val → Option Val
  | [x, .own (.fz (.int i))] => ixV x i
  | _ => none
abbrev dIx (f g : Ev → Res) := dF id kIx [f, g]
section
variable {K : PySem.W.Frag} {mg : Str → Option Value} {H H' H1 H2 : Hp} {G G' Gv Gv' : Addr → Prop} {O O' O1 O2 F F1 F2 : List Addr} {Z : Addr → Prop} {env env1 env2 : Ev} {σ : L2.St}
theorem atI_at {α β : Type} {xs : List α} {ys : List β} (hl : xs.length = ys.length) {i : Int} {y : β} (h : atI ys i = some y) : ∃ (j : Nat) (x : α), ys[j]? = some y ∧ xs[j]? = some x ∧ atI xs i = some x := by
  unfold atI at h ⊢
  rw [hl]
  obtain ⟨j, e1, e2⟩ := Option.bind_eq_some_iff.mp h
  obtain ⟨hj, _⟩ := List.getElem?_eq_some_iff.mp e2
  have hx : xs[j]? = some (xs[j]'(by omega)) := List.getElem?_eq_getElem _
  exact ⟨j, _, e2, hx, by rw [e1]; exact hx⟩
/-- one of the values is left: a frozen datum -/
theorem PostAt.keepF {vs : List V} {xs : List Val} {q : Ql} {v : V} {d : PyData} (pl : PostAt K Z O env σ H vs H' xs env1 q O' F) (r : RF K H' (fun a => ¬ Z a ∧ a ∉ O' ∧ a ∉ F) v d) : Post K Z O env σ H v H' (.own (.fz d)) env1 q := by
  obtain ⟨I, rr, nd, nz, st, qu, pp⟩ := pl
  exact ⟨O', [], by rw [Zp_nil]; exact I.weak fun a z => .inl z, .own (.fz (r.imp fun a h => ⟨h.1, h.2.1, fun z => nomatch z⟩)) .nil, List.Pairwise.nil, (fun _ z => nomatch z), st.weak (fun _ z => nomatch z), qu, fun e => ⟨(pp e).1, (pp e).2.1, rfl⟩⟩
/-- .. or a view -/
theorem PostAt.keepV {vs : List V} {xs : List Val} {q : Ql} {v : V} {m : M} {F' : List Addr} (pl : PostAt K Z O env σ H vs H' xs env1 q O' F) (h1 : RM K H' (fun a => ¬ Z a ∧ a ∉ O' ∧ a ∉ F) v m F') (h2 : ∀ a ∈ F', ¬ Z a) : Post K Z O env σ H v H' (mkVw m) env1 q := by
  obtain ⟨I, rr, nd, nz, st, qu, pp⟩ := pl
  have h3 := h1.imp (G' := fun a => ¬ Z a ∧ a ∉ O' ∧ a ∉ ([] : List Addr)) fun a h => ⟨h.1, h.2.1, fun z => nomatch z⟩
  refine ⟨O', [], by rw [Zp_nil]; exact I.weak fun a z => .inl z, ?_, List.Pairwise.nil, (fun _ z => nomatch z), st.weak (fun _ z => nomatch z), qu, fun e => ⟨(pp e).1, (pp e).2.1, rfl⟩⟩
  cases m with
  | fz d => exact .own (.fz h3.fzD.1) .nil
  | lst xs => exact .vw h3 h2 .nil
  | tup xs => exact .vw h3 h2 .nil
  | dK ks xs => exact .vw h3 h2 .nil
  | dT ks xs => exact .vw h3 h2 .nil
/-- .. or a part of an owned tree -/
theorem PostAt.keepO {vs : List V} {xs : List Val} {q : Ql} {v : V} {m : M} {F' : List Addr} (pl : PostAt K Z O env σ H vs H' xs env1 q O' F) (h1 : RM K H' (fun a => ¬ Z a ∧ a ∉ O' ∧ a ∉ F) v m F') (h2 : F'.Sublist F) : Post K Z O env σ H v H' (.own m) env1 q := by
  obtain ⟨I, rr, nd, nz, st, qu, pp⟩ := pl
  refine ⟨O', F', I.weak fun a z => z.elim .inl fun z => .inr (h2.subset z), by simpa using RVs.own (h1.imp (G' := fun a => ¬ Z a ∧ a ∉ O' ∧ a ∉ F') fun a h => ⟨h.1, h.2.1, fun z => h.2.2 (h2.subset z)⟩) .nil, nd.sublist h2, fun a ha => nz a (h2.subset ha), st.weak fun x hx => h2.subset hx, qu, fun e => ⟨(pp e).1, (pp e).2.1, ?_⟩⟩
  have z := (pp e).2.2
  subst z
  exact List.sublist_nil.mp h2
theorem RVs.own1 {v : V} {vs : List V} {m : M} {xs : List Val} (r : RVs K H G Gv (v :: vs) (.own m :: xs) F) : ∃ F', RM K H G v m F' ∧ F'.Sublist F := by
  cases r with
  | own h _ => exact ⟨_, h, List.sublist_append_left _ _⟩
theorem RVs.vw1 {v : V} {vs : List V} {m : M} {xs : List Val} (r : RVs K H G Gv (v :: vs) (.vw m :: xs) F) : ∃ F', RM K H G v m F' ∧ ∀ a ∈ F', Gv a := by
  cases r with
  | vw h hf _ => exact ⟨_, h, hf⟩
theorem RVs.tail {v : V} {vs : List V} {x : Val} {xs : List Val} (r : RVs K H G Gv (v :: vs) (x :: xs) F) : ∃ F', RVs K H G Gv vs xs F' ∧ F'.Sublist F := by
  cases r with
  | own _ h => exact ⟨_, h, List.sublist_append_right _ _⟩
  | vw _ _ h => exact ⟨_, h, List.Sublist.refl _⟩
theorem RVs.fz1 {v : V} {d : PyData} {xs : List Val} {vs : List V} (r : RVs K H G Gv (v :: vs) (.own (.fz d) :: xs) F) : RF K H G v d := by
  cases r with
  | own h _ => exact h.fzD.1
theorem RVs.nilF {vs : List V} (r : RVs K H G Gv vs [] F) : vs = [] ∧ F = [] := by cases r; exact ⟨rfl, rfl⟩
/-- the item of a value -/
theorem ix_val {Q : VK} {v : V} {x : Val} {xs : List Val} {vs : List V} {i : Int} {y : Val} {q : Ql} (pl : PostL K Z O env σ H (v :: vs) H' (x :: xs) env1 q) (hy : ixV x i = some y) (h : ∀ v' H'', Post K Z O env σ H v' H'' y env1 q → Q v' H'') : rIx K v (.int i) H' Q := by
  obtain ⟨O', F, pa⟩ := pl.ex
  have rr := pa.2.1
  unfold ixV at hy
  split at hy
  · rename_i ds
    obtain ⟨d, hd, rfl⟩ := Option.map_eq_some_iff.mp hy
    have r0 := rr.fz1
    cases r0 with
    | tup hq rs =>
      obtain ⟨j, x, e1, e2, e3⟩ := atI_at rs.length hd
      obtain ⟨v', e4, r4⟩ := rs.get e1
      rw [e2] at e4; cases e4
      exact .inr (.inl ⟨_, _, i, x, rfl, rfl, hq.t, e3, h x H' (pa.keepF r4)⟩)
  · rename_i ds
    obtain ⟨d, hd, rfl⟩ := Option.map_eq_some_iff.mp hy
    have r0 := rr.fz1
    cases r0 with
    | lst hq hg rs =>
      obtain ⟨j, x, e1, e2, e3⟩ := atI_at rs.length hd
      obtain ⟨v', e4, r4⟩ := rs.get e1
      rw [e2] at e4; cases e4
      exact .inl ⟨_, _, i, x, rfl, rfl, .inl hq, e3, h x H' (pa.keepF r4)⟩
  · rename_i z
    split at hy
    · rename_i hz
      obtain ⟨c, hc, rfl⟩ := Option.map_eq_some_iff.mp hy
      have e := rr.fz1.strI
      subst e
      exact .inr (.inr ⟨z, i, c, rfl, rfl, hz, hc, h _ H' (pa.keepF (.str _))⟩)
    · cases hy
  · rename_i ms
    obtain ⟨m, hm, rfl⟩ := Option.map_eq_some_iff.mp hy
    obtain ⟨F', r0, sub⟩ := rr.own1
    cases r0 with
    | lst hq rs =>
      obtain ⟨j, x, e1, e2, e3⟩ := atI_at rs.length hm
      obtain ⟨v', F2, e4, r4, s4⟩ := rs.get e1
      rw [e2] at e4; cases e4
      exact .inl ⟨_, _, i, x, rfl, rfl, .inl (.inl hq), e3, h x H' (pa.keepO r4 ((s4.trans (List.sublist_cons_self _ _)).trans sub))⟩
  · rename_i ms
    obtain ⟨m, hm, rfl⟩ := Option.map_eq_some_iff.mp hy
    obtain ⟨F', r0, sub⟩ := rr.own1
    cases r0 with
    | tup hq rs =>
      obtain ⟨j, x, e1, e2, e3⟩ := atI_at rs.length hm
      obtain ⟨v', F2, e4, r4, s4⟩ := rs.get e1
      rw [e2] at e4; cases e4
      exact .inr (.inl ⟨_, _, i, x, rfl, rfl, hq.t, e3, h x H' (pa.keepO r4 (s4.trans sub))⟩)
  · rename_i ms
    obtain ⟨m, hm, rfl⟩ := Option.map_eq_some_iff.mp hy
    obtain ⟨F', r0, hv⟩ := rr.vw1
    cases r0 with
    | lst hq rs =>
      obtain ⟨j, x, e1, e2, e3⟩ := atI_at rs.length hm
      obtain ⟨v', F2, e4, r4, s4⟩ := rs.get e1
      rw [e2] at e4; cases e4
      exact .inl ⟨_, _, i, x, rfl, rfl, .inl (.inl hq), e3, h x H' (pa.keepV r4 fun a ha => hv a (List.mem_cons_of_mem _ (s4.subset ha)))⟩
  · rename_i ms
    obtain ⟨m, hm, rfl⟩ := Option.map_eq_some_iff.mp hy
    obtain ⟨F', r0, hv⟩ := rr.vw1
    cases r0 with
    | tup hq rs =>
      obtain ⟨j, x, e1, e2, e3⟩ := atI_at rs.length hm
      obtain ⟨v', F2, e4, r4, s4⟩ := rs.get e1
      rw [e2] at e4; cases e4
      exact .inr (.inl ⟨_, _, i, x, rfl, rfl, hq.t, e3, h x H' (pa.keepV r4 fun a ha => hv a (s4.subset ha))⟩)
  · cases hy
theorem kIx_some {xs : List Val} {y : Val} (h : kIx xs = some y) : ∃ x i, xs = [x, .own (.fz (.int i))] ∧ ixV x i = some y := by
  unfold kIx at h
  split at h
  · exact ⟨_, _, rfl, h⟩
  · cases h
end
theorem se_ix {X : Cx} {f g : Ev → Res} {a b : Expr} {pos : Pos} (ha : SE X f a) (hb : SE X g b) (hs : PlainIx b) : SE X (dIx f g) (.Subscript a b pos) := fun W tk =>
  PE.imp (pe_ix ix_seq (ha W tk) (hb W tk) hs) fun σ H Q h => tu_two (tul_F h fun Z O env env' q xs y I hk hl vs H' pl k v w ev => by
    subst ev
    obtain ⟨x, i, rfl, hy⟩ := kIx_some hk
    have ew : w = .int i := by
      obtain ⟨O', F, pa⟩ := pl.ex
      obtain ⟨F', r2, _⟩ := pa.2.1.tail
      exact r2.fz1.intI
    subst ew
    exact ix_val pl hy k)
end Q

set_option Elab.async false
set_option linter.all false
set_option maxRecDepth 100000
set_option maxHeartbeats 4000000
/-! Lists, slices, comparisons. -/
namespace Q
open PySem PySem.Spec PyProof.Rows L2
abbrev SZ : Nat := 16777216
theorem le_sz {n : Nat} (h : n ≤ SZ) : n ≤ sizeLine := by rw [sizeLine_eq]; exact h

section
variable {K : PySem.W.Frag} {mg : Str → Option Value} {H H' H1 H2 : Hp} {G G' Gv Gv' : Addr → Prop} {O O' O1 O2 F F1 F2 : List Addr} {Z : Addr → Prop} {env env1 env2 : Ev} {σ : L2.St}
theorem Post.wn {v : V} {x : Val} {q : Ql} (p : Post K Z O env σ H v H' x env1 q) : Post K Z O env σ H v H' x env1 q.n := by
  obtain ⟨O', F, a, b, c, d, e, f, g⟩ := p.ex
  exact ⟨O', F, a, b, c, d, e, fun h => f (qn_l h), fun h => (qn_p h).elim⟩
/-- a new owned list of what is left of the values -/
theorem PostAt.newL {vs : List V} {xs : List Val} {ms : List M} {ws : List V} {q : Ql} {p : Addr} (pl : PostAt K Z O env σ H vs H' xs env1 q O' F) (rm : RMs K H' (fun a => ¬ Z a ∧ a ∉ O' ∧ a ∉ F) ws ms F2) (sub : F2.Sublist F) (hn : H' p = none) : Post K Z O env σ H (.ref p) (upd H' p (.lst ws)) (.own (.lst ms)) env1 q.n := by
  obtain ⟨I, r, nd, nz, st, qu, pp⟩ := pl
  have k := upd_keep (o := .lst ws) hn
  have nf : p ∉ F2 := fun z => by
    obtain ⟨o, e, _⟩ := rm.owd p z
    rw [hn] at e; cases e
  have nO : p ∉ O' := fun z => by
    obtain ⟨o, e, _⟩ := I.owd p z
    rw [hn] at e; cases e
  have nZ : ¬ Z p := fun z => by
    obtain ⟨o, e⟩ := I.zt p (.inl z)
    rw [hn] at e; cases e
  have I2 : SI K (Zp Z (p :: F2)) O' env1 σ (upd H' p (.lst ws)) := by
    have key : ∀ {env : Ev} {σ : L2.St} {Fs : List (List Addr)}, Slots K H' (fun a => ¬ Zp Z F a ∧ a ∉ O') env σ Fs → Slots K (upd H' p (.lst ws)) (fun a => ¬ Zp Z (p :: F2) a ∧ a ∉ O') env σ Fs := by
      intro env σ Fs s
      induction s with
      | nil => exact .nil
      | non _ ih => exact .non ih
      | som h _ ih =>
        refine .som (h.step (O := []) (fun _ z => nomatch z) (fun _ _ z => nomatch z) (fun _ _ z => nomatch z) (fun a o _ e => k a o e) fun a o g e => ⟨fun z => ?_, g.2⟩) ih
        rcases z with z | z
        · exact g.1 (.inl z)
        · rcases List.mem_cons.mp z with z | z
          · rw [z, hn] at e; cases e
          · exact g.1 (.inr (sub.subset z))
    obtain ⟨Fs, s, e⟩ := I.sl
    refine ⟨⟨Fs, key s, e⟩, I.nd, fun a ha z => ?_, fun a z => ?_⟩
    · rcases z with z | z
      · exact I.nz a ha (.inl z)
      · rcases List.mem_cons.mp z with z | z
        · exact nO (z ▸ ha)
        · exact I.nz a ha (.inr (sub.subset z))
    · rcases z with z | z
      · exact (I.zt a (.inl z)).imp fun o q => k a o q
      · rcases List.mem_cons.mp z with z | z
        · exact ⟨_, by rw [z]; exact upd_same⟩
        · exact (I.zt a (.inr (sub.subset z))).imp fun o q => k a o q
  refine ⟨O', p :: F2, I2, ?_, List.nodup_cons.mpr ⟨nf, nd.sublist sub⟩, fun a ha => ?_, ⟨fun a o n e => ?_⟩, fun z a o e => k a o (qu (qn_l z) a o e), fun z => (qn_p z).elim⟩
  · have h := RVs.own (G := fun a => ¬ Z a ∧ a ∉ O' ∧ a ∉ p :: F2) (Gv := fun a => ¬ Z a) (RM.lst (G := fun a => ¬ Z a ∧ a ∉ O' ∧ a ∉ p :: F2) (upd_same (H := H') (a := p) (o := .lst ws)) (rm.step (O := []) (H' := upd H' p (.lst ws)) (G' := fun a => ¬ Z a ∧ a ∉ O' ∧ a ∉ p :: F2) (fun _ z => nomatch z) (fun _ _ z => nomatch z) (fun _ _ z => nomatch z) (fun a o _ e => k a o e) fun a o g e => ⟨g.1, g.2.1, fun z => ?_⟩)) .nil
    · simpa using h
    · rcases List.mem_cons.mp z with z | z
      · rw [z, hn] at e; cases e
      · exact g.2.2 (sub.subset z)
  · rcases List.mem_cons.mp ha with z | z
    · rw [z]; exact nZ
    · exact nz a (sub.subset z)
  · obtain ⟨e1, n1, n2⟩ := st.keep a o n e
    refine ⟨k a o e1, n1, fun z => ?_⟩
    rcases List.mem_cons.mp z with z | z
    · rw [z, hn] at e1; cases e1
    · exact n2 (sub.subset z)
/-- a new frozen tuple -/
theorem PostAt.newT {vs : List V} {xs : List Val} {ds : List PyData} {ws : List V} {q : Ql} {p : Addr} (pl : PostAt K Z O env σ H vs H' xs env1 q O' F) (rf : RFs K H' (fun a => ¬ Z a ∧ a ∉ O' ∧ a ∉ F) ws ds) (hn : H' p = none) {o : Obj} (ho : o.dict = none) : Post K Z O env σ H (.ref p) (upd H' p (TF o ws)) (.own (.fz (.tuple ds))) env1 q.n := by
  obtain ⟨I, r, nd, nz, st, qu, pp⟩ := pl
  have k := upd_keep (o := TF o ws) hn
  refine ⟨O', [], by rw [Zp_nil]; exact (I.grow k).weak fun a z => .inl z, .own (.fz (.tup (.inl ⟨o, upd_same, ho⟩) ((rf.grow k).imp fun a h => ⟨h.1, h.2.1, fun z => nomatch z⟩))) .nil, List.Pairwise.nil, (fun _ z => nomatch z), ⟨fun a o n e => ?_⟩, fun z a o e => k a o (qu (qn_l z) a o e), fun z => (qn_p z).elim⟩
  obtain ⟨e1, n1, n2⟩ := st.keep a o n e
  exact ⟨k a o e1, n1, fun z => nomatch z⟩
/-- a list's frozen items; a tuple's -/
def lv : Val → Option (List PyData)
  | .own (.fz (.list ds)) => some ds
  | .own (.lst ms) => leaves ms
  | .vw (.lst ms) => leaves ms
  | _ => none
def tv : Val → Option (List PyData)
  | .own (.fz (.tuple ds)) => some ds
  | _ => none
theorem RVs.lv {v : V} {vs : List V} {x : Val} {xs : List Val} {ds : List PyData} (r : RVs K H G Gv (v :: vs) (x :: xs) F) (e : lv x = some ds) : ∃ a ws, v = .ref a ∧ L2.Rd H a (.lst ws) ∧ RFs K H G ws ds := by
  unfold Q.lv at e
  split at e
  · cases e
    cases r.fz1 with
    | lst hq hg rs => exact ⟨_, _, rfl, hq, rs⟩
  · obtain ⟨F', r0, _⟩ := r.own1
    cases r0 with
    | lst hq rs => exact ⟨_, _, rfl, .inl hq, (rs.leaf e).1⟩
  · obtain ⟨F', r0, _⟩ := r.vw1
    cases r0 with
    | lst hq rs => exact ⟨_, _, rfl, .inl hq, (rs.leaf e).1⟩
  · cases e
theorem RVs.tv {v : V} {vs : List V} {x : Val} {xs : List Val} {ds : List PyData} (r : RVs K H G Gv (v :: vs) (x :: xs) F) (e : tv x = some ds) : ∃ a ws, v = .ref a ∧ SqN K H a ws ∧ RFs K H G ws ds := by
  unfold Q.tv at e
  split at e
  · cases e
    cases r.fz1 with
    | tup hq rs => exact ⟨_, _, rfl, hq, rs⟩
  · cases e
theorem RFs.append : ∀ {vs ws : List V} {ds es : List PyData}, RFs K H G vs ds → RFs K H G ws es → RFs K H G (vs ++ ws) (ds ++ es)
  | _, _, _, _, .nil, r => r
  | _, _, _, _, .cons h r, r' => .cons h (RFs.append r r')
theorem RFs.take : ∀ {vs : List V} {ds : List PyData} (n : Nat), RFs K H G vs ds → RFs K H G (vs.take n) (ds.take n)
  | _, _, 0, _ => .nil
  | _, _, _ + 1, .nil => .nil
  | _, _, n + 1, .cons h r => .cons h (RFs.take n r)
theorem RFs.drop : ∀ {vs : List V} {ds : List PyData} (n : Nat), RFs K H G vs ds → RFs K H G (vs.drop n) (ds.drop n)
  | _, _, 0, r => r
  | _, _, _ + 1, .nil => .nil
  | _, _, n + 1, .cons h r => RFs.drop n r
theorem RFs.repl {vs : List V} {ds : List PyData} (r : RFs K H G vs ds) : ∀ n : Nat, RFs K H G (List.replicate n vs).flatten (List.replicate n ds).flatten
  | 0 => .nil
  | n + 1 => by
    rw [List.replicate_succ, List.replicate_succ, List.flatten_cons, List.flatten_cons]
    exact r.append (RFs.repl r n)
theorem RFs.revAux : ∀ {vs ws : List V} {ds es : List PyData}, RFs K H G vs ds → RFs K H G ws es → RFs K H G (vs.reverseAux ws) (ds.reverseAux es)
  | _, _, _, _, .nil, s => s
  | _, _, _, _, .cons h r, s => by
    have := RFs.revAux r (.cons h s)
    exact this
theorem RFs.reverse {vs : List V} {ds : List PyData} (r : RFs K H G vs ds) : RFs K H G vs.reverse ds.reverse := RFs.revAux r .nil
mutual
theorem RF.dp : ∀ {v : V} {d : PyData}, RF K H G v d → Dp K H v d
  | _, _, .non => .non
  | _, _, .bl b => .bl b
  | _, _, .int i => .int i
  | _, _, .str x => .str x
  | _, _, .lst h _ r => .lst (.inl h) (RFs.dp r)
  | _, _, .tup h r => .tup h.t (RFs.dp r)
theorem RFs.dp : ∀ {vs : List V} {ds : List PyData}, RFs K H G vs ds → DpAll K H vs ds
  | _, _, .nil => .nil
  | _, _, .cons h r => .cons (RF.dp h) (RFs.dp r)
end
/-! ### slices -/
def cutD {α : Type} (xs : List α) (lo hi : Option Int) : List α := (xs.drop (HT.sIx xs.length 0 lo)).take (HT.sIx xs.length xs.length hi - HT.sIx xs.length 0 lo)
def slV (x : Val) (lo hi : Option Int) : Option Val :=
  match x with
  | .own (.fz (.tuple ds)) => some (.own (.fz (.tuple (cutD ds lo hi))))
  | .own (.fz (.str z)) => if z.length ≤ SZ then some (.own (.fz (.str (cutS z lo hi)))) else none
  | x => (lv x).map fun ds => .own (.lst ((cutD ds lo hi).map .fz))
def rSl (K : PySem.W.Frag) : V → Option Int → Option Int → Hp → VK → Prop := fun x lo hi H Q => rSlL K x lo hi H Q ∨ rSlX K x lo hi H Q ∨ rSlS x lo hi H Q
theorem sl_any {X : Cx} : SlR X (rSl X.K) := sl_list.or (sl_tupX.or sl_str)
theorem RFs.cut {vs : List V} {ds : List PyData} (r : RFs K H G vs ds) (lo hi : Option Int) : RFs K H G (cutV vs lo hi) (cutD ds lo hi) := by
  unfold cutV cutD
  rw [r.length]
  exact (r.drop _).take _
theorem cut_whole {α : Type} {xs : List α} {lo hi : Option Int} (h : HT.sIx xs.length 0 lo = 0 ∧ HT.sIx xs.length xs.length hi = xs.length) : cutD xs lo hi = xs := by
  unfold cutD
  rw [h.1, h.2]
  simp
theorem sl_val {Q : VK} {v : V} {x : Val} {xs : List Val} {vs : List V} {lo hi : Option Int} {y : Val} {q : Ql} (pl : PostL K Z O env σ H (v :: vs) H' (x :: xs) env1 q) (hy : slV x lo hi = some y) (h : ∀ v' H'', Post K Z O env σ H v' H'' y env1 q.n → Q v' H'') : rSl K v lo hi H' Q := by
  obtain ⟨O', F, pa⟩ := pl.ex
  have rr := pa.2.1
  have lst : ∀ ds, lv x = some ds → y = .own (.lst ((cutD ds lo hi).map .fz)) → rSl K v lo hi H' Q := fun ds e ey => by
    subst ey
    obtain ⟨a, ws, rfl, hr, rs⟩ := rr.lv e
    exact .inl ⟨a, ws, rfl, .inl hr, fun p hn => h _ _ (pa.newL (rs.cut lo hi).tms (List.nil_sublist _) hn)⟩
  unfold slV at hy
  split at hy
  · rename_i ds
    cases hy
    cases rr.fz1 with
    | tup hq rs =>
      refine .inr (.inl ⟨_, _, rfl, hq.t, fun hw => ?_, fun hw p o hn ho => h _ _ (pa.newT (rs.cut lo hi) hn ho)⟩)
      rw [rs.length] at hw
      have := cut_whole hw
      rw [this] at h
      exact h _ _ (Post.wn (pa.keepF (.tup hq rs)))
  · rename_i z
    split at hy
    · rename_i hz
      cases hy
      have e := rr.fz1.strI
      subst e
      exact .inr (.inr ⟨z, rfl, le_sz hz, h _ _ (Post.wn (pa.keepF (.str _)))⟩)
    · cases hy
  · obtain ⟨ds, e, ey⟩ := Option.map_eq_some_iff.mp hy
    exact lst ds e ey.symm
end
def kSl1 (b : Bool) : List Val → Option Val
  | [x, .own (.fz (.int i))] => if b = true then slV x (some i) none else slV x none (some i)
  | _ => none
def kSl2 : List Val → Option Val
  | [x, .own (.fz (.int i)), .own (.fz (.int j))] => slV x (some i) (some j)
  | _ => none
def kSl0 : List Val → Option Val
  | [x] => slV x none none
  | _ => none
section
variable {X : Cx} {f g k : Ev → Res} {e lo hi : Expr} {pos p2 : Pos}
theorem tu_three {K : PySem.W.Frag} {mg : Str → Option Value} {W : WX} {f g k : Ev → Res} {σ : L2.St} {H : Hp} {R : V → V → V → Hp → Prop}
    (h : TUL K mg W (evs [f, g, k]) σ H fun vs H2 => ∀ u v w, vs = [u, v, w] → R u v w H2) : TU K mg W f σ H fun u H1 => TU K mg W g σ H1 fun v H2 => TU K mg W k σ H2 fun w H3 => R u v w H3 := by
  have mono : ∀ {f : Ev → Res} {σ H} {Q Q' : VK}, TU K mg W f σ H Q → (∀ v H', Q v H' → Q' v H') → TU K mg W f σ H Q' := fun {f σ H Q Q'} ⟨Z, O, env, I, h⟩ qq => by
    refine ⟨Z, O, env, I, ?_⟩
    cases e : f env with
    | stuck => rw [e] at h; exact h
    | exn c e1 => rw [e] at h; exact h
    | ok x e1 q => rw [e] at h; exact fun v H' p => qq v H' (h v H' p)
  refine mono (tu_cons h) fun u H1 h1 => ?_
  refine mono (tu_cons h1) fun v H2 h2 => ?_
  refine mono (tu_cons h2) fun w H3 h3 => ?_
  exact tul_nil h3 u v w rfl
theorem second_int {K : PySem.W.Frag} {Z : Addr → Prop} {O : List Addr} {env env1 : Ev} {σ : L2.St} {H H' : Hp} {v w : V} {vs : List V} {x : Val} {i : Int} {xs : List Val} {q : Ql} (pl : PostL K Z O env σ H (v :: w :: vs) H' (x :: .own (.fz (.int i)) :: xs) env1 q) : w = .int i := by
  obtain ⟨O', F, pa⟩ := pl.ex
  obtain ⟨F', r2, _⟩ := pa.2.1.tail
  exact r2.fz1.intI
theorem third_int {K : PySem.W.Frag} {Z : Addr → Prop} {O : List Addr} {env env1 : Ev} {σ : L2.St} {H H' : Hp} {v w u : V} {vs : List V} {x y : Val} {i : Int} {xs : List Val} {q : Ql} (pl : PostL K Z O env σ H (v :: w :: u :: vs) H' (x :: y :: .own (.fz (.int i)) :: xs) env1 q) : u = .int i := by
  obtain ⟨O', F, pa⟩ := pl.ex
  obtain ⟨F', r2, _⟩ := pa.2.1.tail
  obtain ⟨F', r3, _⟩ := r2.tail
  exact r3.fz1.intI
/-- e[lo:] -/
theorem se_slL (he : SE X f e) (hl : SE X g lo) : SE X (dF Ql.n (kSl1 true) [f, g]) (.Subscript e (.Slice (some lo) none none p2) pos) := fun W tk =>
  PE.imp (pe_slice sl_any (he W tk) (po_some (hl W tk)) po_none) fun σ H Q h => tu_two (tul_F h fun Z O env env' q xs y I hk hlen vs H' pl kk v w ev => by
    subst ev
    unfold kSl1 at hk
    split at hk
    · rename_i x i
      rw [if_pos rfl] at hk
      exact ⟨i, second_int pl, sl_val pl hk kk⟩
    · cases hk)
/-- e[:hi] -/
theorem se_slH (he : SE X f e) (hl : SE X g hi) : SE X (dF Ql.n (kSl1 false) [f, g]) (.Subscript e (.Slice none (some hi) none p2) pos) := fun W tk =>
  PE.imp (pe_slice sl_any (he W tk) po_none (po_some (hl W tk))) fun σ H Q h => tu_two (tul_F h fun Z O env env' q xs y I hk hlen vs H' pl kk v w ev => by
    subst ev
    unfold kSl1 at hk
    split at hk
    · rename_i x i
      rw [if_neg (by decide)] at hk
      exact ⟨i, second_int pl, sl_val pl hk kk⟩
    · cases hk)
/-- an int is asked -/
def isInt : Val → Option Int
  | .own (.fz (.int i)) => some i
  | _ => none
theorem isInt_some {x : Val} {i : Int} (h : isInt x = some i) : x = .own (.fz (.int i)) := by
  unfold isInt at h
  split at h
  · cases h; rfl
  · cases h
def dInt (g : Ev → Res) : Ev → Res := fun env => match g env with
  | .ok x e q => (match isInt x with
    | some _ => .ok x e q
    | none => .stuck)
  | .exn c e => .exn c e
  | .stuck => .stuck
theorem tu_mono {K : PySem.W.Frag} {mg : Str → Option Value} {W : WX} {f : Ev → Res} {σ : L2.St} {H : Hp} {Q Q' : VK} (h : TU K mg W f σ H Q) (qq : ∀ v H', Q v H' → Q' v H') : TU K mg W f σ H Q' := by
  obtain ⟨Z, O, env, I, h⟩ := h
  refine ⟨Z, O, env, I, ?_⟩
  cases e : f env with
  | stuck => rw [e] at h; exact h
  | exn c e1 => rw [e] at h; exact h
  | ok x e1 q => rw [e] at h; exact fun v H' p => qq v H' (h v H' p)
theorem tu_int {K : PySem.W.Frag} {mg : Str → Option Value} {W : WX} {g : Ev → Res} {σ : L2.St} {H : Hp} {Q : VK} (h : TU K mg W (dInt g) σ H Q) : TU K mg W g σ H fun v H' => ∃ i, v = .int i ∧ Q v H' := by
  obtain ⟨Z, O, env, I, h⟩ := h
  refine ⟨Z, O, env, I, ?_⟩
  unfold dInt at h
  cases e : g env with
  | stuck => simp only [e] at h
  | exn c e1 => simp only [e] at h; exact h
  | ok x e1 q =>
    simp only [e] at h
    intro v H' p
    cases hx : isInt x with
    | none => simp only [hx] at h
    | some i =>
      simp only [hx] at h
      have ev : v = .int i := by
        obtain ⟨O', F, pa⟩ := p.ex
        have rr := pa.2.1
        rw [isInt_some hx] at rr
        exact rr.fz1.intI
      exact ⟨i, ev, h v H' p⟩
theorem se_dInt (he : SE X g e) : SE X (dInt g) e := fun W tk => PE.imp (he W tk) fun σ H Q h => tu_mono (tu_int h) fun v H' q => by
  obtain ⟨_, _, q⟩ := q
  exact q
/-- e[lo:hi] -/
theorem se_slLH (he : SE X f e) (hl : SE X g lo) (hh : SE X k hi) : SE X (dF Ql.n kSl2 [f, dInt g, dInt k]) (.Subscript e (.Slice (some lo) (some hi) none p2) pos) := fun W tk =>
  PE.imp (pe_slice sl_any (he W tk) (po_some (hl W tk)) (po_some (hh W tk))) fun σ H Q h => by
    have h3 := tu_three (R := fun u v w H3 => ∀ i j, v = .int i → w = .int j → rSl X.K u (some i) (some j) H3 Q) (tul_F h fun Z O env env' q xs y I hk hlen vs H' pl kk u v w ev i j ei ej => by
      subst ev
      unfold kSl2 at hk
      split at hk
      · rename_i x i' j'
        have e1 := second_int pl
        have e2 := third_int pl
        rw [ei] at e1; cases e1
        rw [ej] at e2; cases e2
        exact sl_val pl hk kk
      · cases hk)
    refine tu_mono h3 fun u H1 h1 => ?_
    refine tu_mono (tu_int h1) fun v H2 h2 => ?_
    obtain ⟨i, ei, h2⟩ := h2
    refine ⟨i, ei, tu_mono (tu_int h2) fun w H3 h3 => ?_⟩
    obtain ⟨j, ej, h3⟩ := h3
    exact ⟨j, ej, h3 i j ei ej⟩
/-- e[:] -/
theorem se_sl0 (he : SE X f e) : SE X (dF Ql.n kSl0 [f]) (.Subscript e (.Slice none none none p2) pos) := fun W tk =>
  PE.imp (pe_slice sl_any (he W tk) po_none po_none) fun σ H Q h => tu_one (tul_F h fun Z O env env' q xs y I hk hlen vs H' pl kk v ev => by
    subst ev
    unfold kSl0 at hk
    split at hk
    · exact sl_val pl hk kk
    · cases hk)
end
end Q

set_option Elab.async false
set_option linter.all false
set_option maxRecDepth 100000
set_option maxHeartbeats 4000000
/-! +, *, ==, in, is; tests. -/
namespace Q
open PySem PySem.Spec PyProof.Rows L2

def Ql.f (b : Bool) (q : Ql) : Ql := match b with
  | true => q.n
  | false => q
/-- what is made of a row of values; true: something new -/
def dG (k : List Val → Option (Val × Bool)) (fs : List (Ev → Res)) : Ev → Res := fun env => match evs fs env with
  | .ok xs env' q => (match k xs with
    | some (y, b) => .ok y env' (q.f b)
    | none => .stuck)
  | .exn c env' => .exn c env'
  | .stuck => .stuck
section
variable {K : PySem.W.Frag} {mg : Str → Option Value} {H H' H1 H2 : Hp} {G G' Gv Gv' : Addr → Prop} {O O' O1 O2 F F1 F2 : List Addr} {Z : Addr → Prop} {env env1 env2 : Ev} {σ : L2.St}
theorem tul_G {W : WX} {k : List Val → Option (Val × Bool)} {fs : List (Ev → Res)} {R : List V → Hp → Prop} {Q : VK} (h : TU K mg W (dG k fs) σ H Q)
    (c : ∀ Z O env env' q xs y b, SI K Z O env σ H → k xs = some (y, b) → xs.length = fs.length → ∀ vs H', PostL K Z O env σ H vs H' xs env' q → (∀ v'' H'', Post K Z O env σ H v'' H'' y env' (q.f b) → Q v'' H'') → R vs H') : TUL K mg W (evs fs) σ H R := by
  obtain ⟨Z, O, env, I, h⟩ := h
  refine ⟨Z, O, env, I, ?_⟩
  unfold dG at h
  cases e : evs fs env with
  | stuck => rw [e] at h; exact h
  | exn c env' => rw [e] at h; exact h
  | ok xs env' q =>
    rw [e] at h
    intro vs H' p
    cases e2 : k xs with
    | none => simp only [e2] at h
    | some yb =>
      obtain ⟨y, b⟩ := yb
      simp only [e2] at h
      exact c Z O env env' q xs y b I e2 (evs_len e) vs H' p h
end
/-- an operator upon values, by its rule -/
def OpV (X : Cx) (f : Value → Value → Sem Value) (k : List Val → Option (Val × Bool)) : Prop :=
  ∃ r, OpR X f r ∧ ∀ Z O env env' σ H H' v w x y z b q Q, PostL X.K Z O env σ H [v, w] H' [x, y] env' q → k [x, y] = some (z, b) → (∀ v' H'', Post X.K Z O env σ H v' H'' z env' (q.f b) → Q v' H'') → r v w H' Q
theorem OpV.or {X : Cx} {f : Value → Value → Sem Value} {k1 k2 : List Val → Option (Val × Bool)} (h1 : OpV X f k1) (h2 : OpV X f k2) : OpV X f (fun xs => (k1 xs).orElse fun _ => k2 xs) := by
  obtain ⟨r1, a1, b1⟩ := h1
  obtain ⟨r2, a2, b2⟩ := h2
  refine ⟨_, a1.or a2, fun Z O env env' σ H H' v w x y z b q Q pl he kk => ?_⟩
  have he : (k1 [x, y]).orElse (fun _ => k2 [x, y]) = some (z, b) := he
  cases e : k1 [x, y] with
  | some d2 =>
    rw [e] at he
    obtain rfl : d2 = (z, b) := Option.some.inj he
    exact .inl (b1 Z O env env' σ H H' v w x y z b q Q pl e kk)
  | none =>
    rw [e] at he
    exact .inr (b2 Z O env env' σ H H' v w x y z b q Q pl he kk)
def kPl (op : List PyData → Option PyData) (xs : List Val) : Option (Val × Bool) := ((valDs xs).bind op).map fun d => (.own (.fz d), false)
theorem OpD.v {X : Cx} {f : Value → Value → Sem Value} {op : List PyData → Option PyData} (h : OpD X f op) : OpV X f (kPl op) := by
  obtain ⟨r, h1, h2⟩ := h
  refine ⟨r, h1, fun Z O env env' σ H H' v w x y z b q Q pl he kk => ?_⟩
  obtain ⟨d, e2, e5⟩ := Option.map_eq_some_iff.mp he
  cases e5
  obtain ⟨ds, e3, e4⟩ := Option.bind_eq_some_iff.mp e2
  obtain ⟨O', F, I', rr, _⟩ := pl.ex
  exact h2 v w H' Q ds d (rr.data e3) e4 fun v' rv => kk v' H' (pl.plain rv)
theorem se_binV {X : Cx} {op : Operator} {k : List Val → Option (Val × Bool)} {f g : Ev → Res} {a b : Expr} {pos : Pos} (ho : OpV X (binaryOp op) k) (ha : SE X f a) (hb : SE X g b) : SE X (dG k [f, g]) (.BinOp a op b pos) := fun W tk => by
  obtain ⟨r, h1, h2⟩ := ho
  refine PE.imp (pe_op h1 (ha W tk) (hb W tk)) fun σ H Q h => tu_two (tul_G h fun Z O env env' q xs y b I hk hl vs H' pl kk v w ev => ?_)
  subst ev
  match xs, hl, hk, pl with
  | [x1, x2], _, hk, pl => exact h2 Z O env env' σ H H' v w x1 x2 y b q Q pl hk kk
/-! ### + -/
def kAddP : List Val → Option (Val × Bool) := kPl fun
  | [.int i, .int j] => some (.int (i + j))
  | [.str a, .str b] => if a.length + b.length ≤ SZ then some (.str (a ++ b)) else none
  | _ => none
def kAddT : List Val → Option (Val × Bool)
  | [x, y] => (tv x).bind fun a => (tv y).bind fun b => if a.length + b.length ≤ SZ then some (.own (.fz (.tuple (a ++ b))), true) else none
  | _ => none
def kAddL : List Val → Option (Val × Bool)
  | [x, y] => (lv x).bind fun a => (lv y).bind fun b => if a.length + b.length ≤ SZ then some (.own (.lst ((a ++ b).map .fz)), true) else none
  | _ => none
def kAdd (xs : List Val) : Option (Val × Bool) := (kAddP xs).orElse fun _ => (kAddT xs).orElse fun _ => kAddL xs
section
variable {X : Cx}
theorem rd_lstM {pins : List (Addr × Obj)} {σ : L2.St} {H : Hp} {s : Shared} {l : Addr} {xs : List V} (I : Inv X pins σ H s) (hH : L2.Rd H l (.lst xs)) : xs.length ≤ sizeLine ∧ ∃ (its : List Value) (n : Nat), Vals xs its ∧ xs.length = its.length ∧ s.heap.get? l = some { cls := .type "list", data := .seq its.toArray n } := by
  obtain ⟨z, its, n, r, e⟩ := hH.ok I.hok
  exact ⟨z, its, n, r, r.length, e⟩
theorem op_catR : OpR X (binaryOp .Add) (fun x y H Q => ∃ l b xs zs, x = .ref l ∧ y = .ref b ∧ L2.Rd H l (.lst xs) ∧ L2.Rd H b (.lst zs) ∧ xs.length + zs.length ≤ sizeLine ∧ ∀ p, H p = none → Q (.ref p) (upd H p (.lst (xs ++ zs)))) := by
  intro pins s σ H x y v u Q I rx ry h
  obtain ⟨l, b, xs, zs, rfl, rfl, hH, hB, hz, q⟩ := h
  cases rx
  cases ry
  obtain ⟨z, its, n, r, hl, e⟩ := rd_lstM I hH
  obtain ⟨z2, its2, n2, r2, hl2, e2⟩ := rd_lstM I hB
  refine PySem.P.add_list e e2 ?_ (by rw [List.size_toArray, List.size_toArray]; omega)
  have ea : its.toArray ++ its2.toArray = (its ++ its2).toArray := by simp
  rw [ea]
  exact ⟨.ref _, _, I.lnew (t' := s.toks) (r.append r2) (by rw [List.length_append]; omega), rfl, q _ I.fresh⟩
theorem opd_addP : OpD X (binaryOp .Add) (fun
  | [.int i, .int j] => some (.int (i + j))
  | [.str a, .str b] => if a.length + b.length ≤ SZ then some (.str (a ++ b)) else none
  | _ => none) := by
  refine ⟨_, op_add.or op_add_str, fun v w H Q ds d hd he k => ?_⟩
  dsimp only at he
  split at he
  · cases he
    obtain ⟨r1, r2⟩ := hd.two
    exact .inl ⟨_, _, r1.intI, r2.intI, k _ fun G => .int _⟩
  · split at he
    · rename_i hz
      cases he
      obtain ⟨r1, r2⟩ := hd.two
      exact .inr ⟨_, _, r1.strI, r2.strI, le_sz hz, k _ fun G => .str _⟩
    · cases he
  · cases he
theorem opv_addT : OpV X (binaryOp .Add) kAddT := by
  refine ⟨_, op_catX, fun Z O env env' σ H H' v w x y z b q Q pl he kk => ?_⟩
  unfold kAddT at he
  obtain ⟨da, ea, he⟩ := Option.bind_eq_some_iff.mp he
  obtain ⟨db, eb, he⟩ := Option.bind_eq_some_iff.mp he
  split at he
  · rename_i hz
    cases he
    obtain ⟨O', F, pa⟩ := pl.ex
    obtain ⟨a, ws, rfl, h1, r1⟩ := pa.2.1.tv ea
    obtain ⟨F', rt, _⟩ := pa.2.1.tail
    obtain ⟨a2, ws2, rfl, h2, r2⟩ := rt.tv eb
    refine ⟨a, a2, ws, ws2, rfl, rfl, h1.t, h2.t, by rw [r1.length, r2.length]; exact le_sz hz, fun e => ?_, fun _ e => ?_, fun _ _ p o hn ho => kk _ _ (pa.newT (r1.append r2) hn ho)⟩
    · subst e
      cases r1
      exact kk _ _ (Post.wn (pa.keepF (.tup h2 r2)))
    · subst e
      cases r2
      rw [List.append_nil] at kk
      exact kk _ _ (Post.wn (pa.keepF (.tup h1 r1)))
  · cases he
theorem opv_addL : OpV X (binaryOp .Add) kAddL := by
  refine ⟨_, op_catR, fun Z O env env' σ H H' v w x y z b q Q pl he kk => ?_⟩
  unfold kAddL at he
  obtain ⟨da, ea, he⟩ := Option.bind_eq_some_iff.mp he
  obtain ⟨db, eb, he⟩ := Option.bind_eq_some_iff.mp he
  split at he
  · rename_i hz
    cases he
    obtain ⟨O', F, pa⟩ := pl.ex
    obtain ⟨a, ws, rfl, h1, r1⟩ := pa.2.1.lv ea
    obtain ⟨F', rt, _⟩ := pa.2.1.tail
    obtain ⟨a2, ws2, rfl, h2, r2⟩ := rt.lv eb
    exact ⟨a, a2, ws, ws2, rfl, rfl, h1, h2, by rw [r1.length, r2.length]; exact le_sz hz, fun p hn => kk _ _ (pa.newL (r1.append r2).tms (List.nil_sublist _) hn)⟩
  · cases he
theorem opv_add : OpV X (binaryOp .Add) kAdd := (OpD.v opd_addP).or (opv_addT.or opv_addL)
/-! ### * -/
def kMulP : List Val → Option (Val × Bool) := kPl oMulI
def kMulL : List Val → Option (Val × Bool)
  | [x, .own (.fz (.int k))] => (lv x).bind fun a => if decide (-(2 ^ 63) ≤ k) && decide (k < 2 ^ 63) && decide (a.length * k.toNat ≤ SZ) then some (.own (.lst ((List.replicate k.toNat a).flatten.map .fz)), true) else none
  | _ => none
def kMulT : List Val → Option (Val × Bool)
  | [x, .own (.fz (.int k))] => (tv x).bind fun a => if decide (a ≠ []) && decide (2 ≤ k) && decide (k ≤ 1000) && decide (a.length ≤ 1000) then some (.own (.fz (.tuple (List.replicate k.toNat a).flatten)), true) else none
  | _ => none
def kMul (xs : List Val) : Option (Val × Bool) := (kMulP xs).orElse fun _ => (kMulL xs).orElse fun _ => kMulT xs
theorem op_repR : OpR X (binaryOp .Mult) (fun x y H Q => ∃ l k xs, x = .ref l ∧ y = .int k ∧ L2.Rd H l (.lst xs) ∧ -(2 ^ 63) ≤ k ∧ k < 2 ^ 63 ∧ xs.length * k.toNat ≤ sizeLine ∧
  ∀ p, H p = none → Q (.ref p) (upd H p (.lst (List.replicate k.toNat xs).flatten))) := by
  intro pins s σ H x y v u Q I rx ry h
  obtain ⟨l, k, xs, rfl, rfl, hH, h1, h2, hz, q⟩ := h
  cases rx
  obtain ⟨t, rfl⟩ := ry
  obtain ⟨z, its, n, r, hl, e⟩ := rd_lstM I hH
  have hlen : its.toArray.size * k.toNat ≤ sizeLine := by rw [List.size_toArray, ← hl]; exact hz
  have hcap : ¬ its.toArray.size * k.toNat > (2 ^ 63 - 1) / 8 := by
    have : (sizeLine : Nat) ≤ (2 ^ 63 - 1) / 8 := by decide
    omega
  have hfit : ¬ (!Builtin.List.listFitsIndex k) = true := by
    rw [fitsIndex_both h1 h2]
    exact Bool.false_ne_true
  have hlong : ¬ Builtin.List.listTooLong (its.toArray.size * k.toNat) = true := by
    rw [notLongL hlen]
    exact Bool.false_ne_true
  have hnew : List.foldl (fun x1 x2 => x1 ++ x2) #[] (List.replicate (if its.toArray.isEmpty = true then 0 else k.toNat) its.toArray) = (List.replicate k.toNat its).flatten.toArray := by
    have f0 : ∀ m : Nat, List.foldl (fun x1 x2 => x1 ++ x2) #[] (List.replicate m its.toArray) = (List.replicate m its).flatten.toArray := fun m => by
      have := foldl_rep its m []
      rw [List.nil_append] at this
      exact this
    rw [f0]
    cases its with
    | nil => simp
    | cons a r' => rw [if_neg (by simp)]
  refine wpAny_binaryOp_repeat_ref (T := "list") (U := "int") (by decide) ⟨_, e, rfl⟩ (fun s' => typeIs_int s' k t) noFill_list_mul F.fills_int_mul F.slot_int_rmul repeat_list F.slot_int_index.lookup
    (call_meets F.slot_int_rmul (typeIs_int s k t) F.entry_int_rmul (F.args_int_rmul_2 _ _) (int___rmul___int_list k t l its.toArray n)
      ⟨e, rfl, ⟨_, e, rfl⟩, call_meets F.slot_list_mul ⟨_, e, rfl⟩ F.entry_list_mul (F.args_list_mul_2 _ _) (AutoListH.list___mul___list_int_3 l its.toArray n k t hfit hcap hlong) ⟨e, ?_⟩⟩)
  rw [hnew]
  exact ⟨.ref _, _, I.lnew (t' := s.toks) (r.rep k.toNat) (by rw [PyProof.Rows.lm_len_rep_flat, Nat.mul_comm]; exact hz), rfl, q _ I.fresh⟩
theorem opv_mulL : OpV X (binaryOp .Mult) kMulL := by
  refine ⟨_, op_repR, fun Z O env env' σ H H' v w x y z b q Q pl he kk => ?_⟩
  unfold kMulL at he
  split at he
  · rename_i heq
    cases heq
    obtain ⟨da, ea, he⟩ := Option.bind_eq_some_iff.mp he
    split at he
    · rename_i hc
      cases he
      simp only [Bool.and_eq_true, decide_eq_true_eq] at hc
      obtain ⟨O', F, pa⟩ := pl.ex
      obtain ⟨a, ws, rfl, h1, r1⟩ := pa.2.1.lv ea
      exact ⟨a, _, ws, rfl, second_int pl, h1, hc.1.1, hc.1.2, by rw [r1.length]; exact le_sz hc.2, fun p hn => kk _ _ (pa.newL (r1.repl _).tms (List.nil_sublist _) hn)⟩
    · cases he
  · cases he
theorem opv_mulT : OpV X (binaryOp .Mult) kMulT := by
  refine ⟨_, op_repX, fun Z O env env' σ H H' v w x y z b q Q pl he kk => ?_⟩
  unfold kMulT at he
  split at he
  · rename_i heq
    cases heq
    obtain ⟨da, ea, he⟩ := Option.bind_eq_some_iff.mp he
    split at he
    · rename_i hc
      cases he
      simp only [Bool.and_eq_true, decide_eq_true_eq] at hc
      obtain ⟨O', F, pa⟩ := pl.ex
      obtain ⟨a, ws, rfl, h1, r1⟩ := pa.2.1.tv ea
      refine ⟨a, _, ws, rfl, second_int pl, h1.t, fun e => hc.1.1.1 ?_, hc.1.1.2, hc.1.2, by rw [r1.length]; exact hc.2, fun p o hn ho => kk _ _ (pa.newT (r1.repl _) hn ho)⟩
      subst e
      cases r1
      rfl
    · cases he
  · cases he
theorem opv_mul : OpV X (binaryOp .Mult) kMul := (OpD.v opd_mulI).or (opv_mulL.or opv_mulT)
/-! ### ==, in, is -/
def scalD : PyData → Bool
  | .none => true | .bool _ => true | .int _ => true | .str _ => true
  | _ => false
def scalP : PyData → PyData → Bool
  | .bool _, .int _ => false
  | .int _, .bool _ => false
  | a, b => scalD a && scalD b
def eqOk (a b : PyData) : Bool := scalP a b || (SeqAt.shaped a && SeqAt.shaped b)
def oEq : List PyData → Option PyData
  | [a, b] => if eqOk a b then some (.bool (PyData.eqv a b)) else none
  | _ => none
def oNe : List PyData → Option PyData
  | [a, b] => if eqOk a b then some (.bool (!PyData.eqv a b)) else none
  | _ => none
theorem scal_of {H : Hp} {K : PySem.W.Frag} {G : Addr → Prop} {a b : PyData} (h : scalP a b = true) {v w : V} (r1 : RF K H G v a) (r2 : RF K H G w b) : scal v w = true ∧ decide (v = w) = PyData.eqv a b := by
  cases r1 <;> cases r2 <;> first
    | (refine ⟨rfl, ?_⟩; simp [PyData.eqv]; done)
    | (refine ⟨rfl, ?_⟩; simp [PyData.eqv, Bool.beq_eq_decide_eq]; done)
    | (exact absurd h (by simp [scalP, scalD]))
theorem opd_eq (hu : X.A.units + 64 < cLine) : OpD X (compareOp .Eq) oEq := by
  refine ⟨_, op_eq.or (op_eqD hu), fun v w H Q ds d hd he k => ?_⟩
  unfold oEq at he
  split at he
  · rename_i a b
    split at he
    · rename_i hc
      cases he
      obtain ⟨r1, r2⟩ := hd.two
      unfold eqOk at hc
      cases hs : scalP a b with
      | true =>
        obtain ⟨s1, s2⟩ := scal_of hs r1 r2
        exact .inl ⟨s1, by rw [s2]; exact k _ fun G => .bl _⟩
      | false =>
        rw [hs, Bool.false_or, Bool.and_eq_true] at hc
        exact .inr ⟨a, b, r1.dp, r2.dp, hc.1, hc.2, k _ fun G => .bl _⟩
    · cases he
  · cases he
theorem opd_ne (hu : X.A.units + 64 < cLine) : OpD X (compareOp .NotEq) oNe := by
  refine ⟨_, op_ne.or (op_neD hu), fun v w H Q ds d hd he k => ?_⟩
  unfold oNe at he
  split at he
  · rename_i a b
    split at he
    · rename_i hc
      cases he
      obtain ⟨r1, r2⟩ := hd.two
      unfold eqOk at hc
      cases hs : scalP a b with
      | true =>
        obtain ⟨s1, s2⟩ := scal_of hs r1 r2
        exact .inl ⟨s1, by rw [s2]; exact k _ fun G => .bl _⟩
      | false =>
        rw [hs, Bool.false_or, Bool.and_eq_true] at hc
        exact .inr ⟨a, b, r1.dp, r2.dp, hc.1, hc.2, k _ fun G => .bl _⟩
    · cases he
  · cases he
def isIn (x : PyData) (ds : List PyData) : Bool := ds.any fun z => PyData.eqv z x
/-- what may be sought in what -/
def oInB : List PyData → Option Bool
  | [x, .list ds] => if scalD x && ds.all scalD then some (isIn x ds) else if SeqAt.shaped x && SeqAt.shaped (.list ds) then some (isIn x ds) else none
  | [x, .tuple ds] => if scalD x && ds.all scalD then some (isIn x ds) else none
  | [.str x, .str z] => some (!(Builtin.Str.occurrences z x 0 z.length 1).isEmpty)
  | _ => none
def oIn (ds : List PyData) : Option PyData := (oInB ds).map .bool
def oNin (ds : List PyData) : Option PyData := (oInB ds).map fun b => .bool !b
theorem flat_of {H : Hp} {K : PySem.W.Frag} {G : Addr → Prop} {a : PyData} (h : scalD a = true) {v : V} (r : RF K H G v a) : flatV v = true := by
  cases r <;> first | rfl | exact absurd h (by simp [scalD])
theorem flats_of {H : Hp} {K : PySem.W.Frag} {G : Addr → Prop} : ∀ {vs : List V} {ds : List PyData}, RFs K H G vs ds → ds.all scalD = true → vs.all flatV = true
  | _, _, .nil, _ => rfl
  | _, _, .cons h r, e => by
    rw [List.all_cons, Bool.and_eq_true] at e
    rw [List.all_cons, flat_of e.1 h, flats_of r e.2]
    rfl
theorem eqV_of {H : Hp} {K : PySem.W.Frag} {G : Addr → Prop} {a b : PyData} (h1 : scalD a = true) (h2 : scalD b = true) {v w : V} (r1 : RF K H G v a) (r2 : RF K H G w b) : eqV v w = PyData.eqv a b := by
  cases r1 <;> cases r2 <;> first
    | (simp [eqV, PyData.eqv]; done)
    | (exact absurd h1 (by simp [scalD]))
    | (exact absurd h2 (by simp [scalD]))
theorem inV_of {H : Hp} {K : PySem.W.Frag} {G : Addr → Prop} {x : PyData} {v : V} (hx : scalD x = true) (r : RF K H G v x) : ∀ {vs : List V} {ds : List PyData}, RFs K H G vs ds → ds.all scalD = true → inV v vs = isIn x ds
  | _, _, .nil, _ => rfl
  | _, _, .cons h t, e => by
    rw [List.all_cons, Bool.and_eq_true] at e
    unfold inV isIn
    rw [List.any_cons, List.any_cons, eqV_of e.1 hx h r]
    congr 1
    exact inV_of hx r t e.2
theorem in_parts {H : Hp} {v w : V} {ds : List PyData} {b : Bool} (hd : RFs X.K H Top [v, w] ds) (he : oInB ds = some b) :
    (∃ p xs, w = .ref p ∧ (SqL X.K H p xs ∨ SqT X.K H p xs) ∧ flatV v = true ∧ xs.all flatV = true ∧ inV v xs = b) ∨ (∃ d es, Dp X.K H v d ∧ Dp X.K H w (.list es) ∧ SeqAt.shaped d = true ∧ SeqAt.shaped (.list es) = true ∧ (es.any fun z => PyData.eqv z d) = b) ∨
      (∃ i j, v = .str i ∧ w = .str j ∧ (!(Builtin.Str.occurrences j i 0 j.length 1).isEmpty) = b) := by
  unfold oInB at he
  split at he
  · obtain ⟨r1, r2⟩ := hd.two
    split at he
    · rename_i hc
      cases he
      rw [Bool.and_eq_true] at hc
      cases r2 with
      | lst h g rs => exact .inl ⟨_, _, rfl, .inl (.inl h), flat_of hc.1 r1, flats_of rs hc.2, inV_of hc.1 r1 rs hc.2⟩
    · split at he
      · rename_i hc
        cases he
        rw [Bool.and_eq_true] at hc
        exact .inr (.inl ⟨_, _, r1.dp, r2.dp, hc.1, hc.2, rfl⟩)
      · cases he
  · obtain ⟨r1, r2⟩ := hd.two
    split at he
    · rename_i hc
      cases he
      rw [Bool.and_eq_true] at hc
      cases r2 with
      | tup h rs => exact .inl ⟨_, _, rfl, .inr h.t, flat_of hc.1 r1, flats_of rs hc.2, inV_of hc.1 r1 rs hc.2⟩
    · cases he
  · cases he
    obtain ⟨r1, r2⟩ := hd.two
    exact .inr (.inr ⟨_, _, r1.strI, r2.strI, rfl⟩)
  · cases he
theorem opd_in (hu : X.A.units + 65 < cLine) : OpD X (compareOp .In) oIn := by
  refine ⟨_, op_in_seq.or ((op_inD hu).or op_in_str), fun v w H Q ds d hd he k => ?_⟩
  obtain ⟨b, eb, rfl⟩ := Option.map_eq_some_iff.mp he
  rcases in_parts hd eb with ⟨p, xs, e1, e2, e3, e4, e5⟩ | ⟨d, es, e1, e2, e3, e4, e5⟩ | ⟨i, j, e1, e2, e3⟩
  · exact .inl ⟨p, xs, e1, e2, e3, e4, by rw [if_neg Bool.false_ne_true, e5]; exact k _ fun G => .bl _⟩
  · exact .inr (.inl ⟨d, es, e1, e2, e3, e4, by rw [e5]; exact k _ fun G => .bl _⟩)
  · exact .inr (.inr ⟨i, j, e1, e2, by rw [e3]; exact k _ fun G => .bl _⟩)
theorem opd_nin (hu : X.A.units + 65 < cLine) : OpD X (compareOp .NotIn) oNin := by
  refine ⟨_, op_notIn_seq.or ((op_notInD hu).or op_notIn_str), fun v w H Q ds d hd he k => ?_⟩
  obtain ⟨b, eb, rfl⟩ := Option.map_eq_some_iff.mp he
  rcases in_parts hd eb with ⟨p, xs, e1, e2, e3, e4, e5⟩ | ⟨d, es, e1, e2, e3, e4, e5⟩ | ⟨i, j, e1, e2, e3⟩
  · exact .inl ⟨p, xs, e1, e2, e3, e4, by rw [if_pos rfl, e5]; exact k _ fun G => .bl _⟩
  · exact .inr (.inl ⟨d, es, e1, e2, e3, e4, by rw [e5]; exact k _ fun G => .bl _⟩)
  · exact .inr (.inr ⟨i, j, e1, e2, by rw [e3]; exact k _ fun G => .bl _⟩)
/-- x is None, x is True -/
def isNonV : Val → Bool
  | .own (.fz .none) => true
  | .vw (.fz .none) => true
  | _ => false
def kIs (n : Bool) : List Val → Option (Val × Bool)
  | [.own (.fz (.bool a)), .own (.fz (.bool b))] => some (.own (.fz (.bool (n != decide (a = b)))), false)
  | [x, .own (.fz .none)] => some (.own (.fz (.bool (n != isNonV x))), false)
  | _ => none
theorem is_parts {Z : Addr → Prop} {O : List Addr} {env env' : Ev} {σ : L2.St} {H H' : Hp} {v w : V} {x y : Val} {q : Ql} {n : Bool} {z : Val} {b : Bool} (pl : PostL X.K Z O env σ H [v, w] H' [x, y] env' q) (he : kIs n [x, y] = some (z, b)) :
    (∃ c d : Bool, v = .bl c ∧ w = .bl d ∧ z = .own (.fz (.bool (n != decide (c = d)))) ∧ b = false) ∨ (w = .non ∧ z = .own (.fz (.bool (n != decide (v = .non)))) ∧ b = false) := by
  obtain ⟨O', F, pa⟩ := pl.ex
  have rr := pa.2.1
  unfold kIs at he
  split at he
  · rename_i heq
    cases heq
    cases he
    obtain ⟨F', rt, _⟩ := rr.tail
    exact .inl ⟨_, _, rr.fz1.blI, rt.fz1.blI, rfl, rfl⟩
  · rename_i heq
    cases heq
    cases he
    obtain ⟨F', rt, _⟩ := rr.tail
    refine .inr ⟨rt.fz1.nonI, ?_, rfl⟩
    have : isNonV x = decide (v = .non) := by
      have hx : ∀ {m : M} {F : List Addr} {G}, RM X.K H' G v m F → decide (v = .non) = (match m with | .fz .none => true | _ => false) := fun r => by
        cases r with
        | fz h => cases h <;> rfl
        | lst _ _ => rfl
        | tup _ _ => rfl
        | dK _ _ => rfl
        | dT _ _ => rfl
      cases x with
      | own m =>
        obtain ⟨F2, r0, _⟩ := rr.own1
        rw [hx r0]
        cases m with
        | fz d => cases d <;> rfl
        | lst _ => rfl
        | tup _ => rfl
        | dK _ _ => rfl
        | dT _ _ => rfl
      | vw m =>
        obtain ⟨F2, r0, _⟩ := rr.vw1
        rw [hx r0]
        cases m with
        | fz d => cases d <;> rfl
        | lst _ => rfl
        | tup _ => rfl
        | dK _ _ => rfl
        | dT _ _ => rfl
    rw [this]
  · cases he
theorem opv_is : OpV X (compareOp .Is) (kIs false) := by
  refine ⟨_, op_isBl.or op_isN, fun Z O env env' σ H H' v w x y z b q Q pl he kk => ?_⟩
  rcases is_parts pl he with ⟨c, d, rfl, rfl, rfl, rfl⟩ | ⟨rfl, rfl, rfl⟩
  · exact .inl ⟨c, d, rfl, rfl, kk _ _ (pl.plain fun G => by rw [Bool.false_bne]; exact .bl _)⟩
  · exact .inr ⟨rfl, kk _ _ (pl.plain fun G => by rw [Bool.false_bne]; exact .bl _)⟩
theorem opv_isnot : OpV X (compareOp .IsNot) (kIs true) := by
  refine ⟨_, op_notBl.or op_notN, fun Z O env env' σ H H' v w x y z b q Q pl he kk => ?_⟩
  rcases is_parts pl he with ⟨c, d, rfl, rfl, rfl, rfl⟩ | ⟨rfl, rfl, rfl⟩
  · exact .inl ⟨c, d, rfl, rfl, kk _ _ (pl.plain fun G => by rw [Bool.true_bne]; exact .bl _)⟩
  · exact .inr ⟨rfl, kk _ _ (pl.plain fun G => by rw [Bool.true_bne]; exact .bl _)⟩
end
theorem se_cmpV {X : Cx} {op : CmpOp} {k : List Val → Option (Val × Bool)} {f g : Ev → Res} {a b : Expr} {pos : Pos} (ho : OpV X (compareOp op) k) (ha : SE X f a) (hb : SE X g b) (hm : behindInMarks op b = false) : SE X (dG k [f, g]) (.Compare a [op] [b] pos) := fun W tk => by
  obtain ⟨r, h1, h2⟩ := ho
  refine PE.imp (pe_cmpR h1 (ha W tk) (hb W tk) hm) fun σ H Q h => tu_two (tul_G h fun Z O env env' q xs y b I hk hl vs H' pl kk v w ev => ?_)
  subst ev
  match xs, hl, hk, pl with
  | [x1, x2], _, hk, pl => exact h2 Z O env env' σ H H' v w x1 x2 y b q Q pl hk kk
end Q

set_option Elab.async false
set_option linter.all false
set_option maxRecDepth 100000
set_option maxHeartbeats 4000000
/-! Tests, and, or, if; calls of built-ins. -/
namespace Q
open PySem PySem.Spec PyProof.Rows L2

/-- a test's reading: its evaluation gives a bool -/
def TUT (K : PySem.W.Frag) (mg : Str → Option Value) (W : WX) (den : Ev → Res) : TT := fun σ H Q => ∃ Z O env, SI K Z O env σ H ∧
  match den env with
  | .ok x env' q => ∃ b, x = .own (.fz (.bool b)) ∧ ∀ H', PostL K Z O env σ H [] H' [] env' q → Q b H'
  | .exn c env' => ∀ cls d H', PostX K mg Z O σ H cls d H' c env' → W cls d σ H'
  | .stuck => False
def ST (X : Cx) (den : Ev → Res) (e : Expr) : Prop := ∀ W, Takes X W → PT X e (TUT X.K X.mg W den)
abbrev EndE (K : PySem.W.Frag) (mg : Str → Option Value) (W : WX) (Z : Addr → Prop) (O : List Addr) (env : Ev) (σ : L2.St) (H : Hp) (Q : VK) (r : Res) : Prop := match r with
  | .ok x env' q => ∀ v H', Post K Z O env σ H v H' x env' q → Q v H'
  | .exn c env' => ∀ cls d H', PostX K mg Z O σ H cls d H' c env' → W cls d σ H'
  | .stuck => False
abbrev EndT (K : PySem.W.Frag) (mg : Str → Option Value) (W : WX) (Z : Addr → Prop) (O : List Addr) (env : Ev) (σ : L2.St) (H : Hp) (Q : Bool → Hp → Prop) (r : Res) : Prop := match r with
  | .ok x env' q => ∃ b, x = .own (.fz (.bool b)) ∧ ∀ H', PostL K Z O env σ H [] H' [] env' q → Q b H'
  | .exn c env' => ∀ cls d H', PostX K mg Z O σ H cls d H' c env' → W cls d σ H'
  | .stuck => False
def STW (X : Cx) (den : Ev → Res) (e : Expr) : Prop := ∀ W, Takes X W → PW X e (TUT X.K X.mg W den)
theorem STW.st {X : Cx} {den : Ev → Res} {e : Expr} (h : STW X den e) : ST X den e := fun W tk => (h W tk).pt
theorem PW.imp {X : Cx} {e : Expr} {t t' : TT} (h : PW X e t) (i : ∀ σ H Q, t' σ H Q → t σ H Q) : PW X e t' := ⟨fun wh pins s σ H Q I q => h.run wh pins s σ H Q I (i σ H Q q)⟩
def Res.q (q : Ql) : Res → Res
  | .ok x e q2 => .ok x e (q.j q2)
  | r => r
/-- the test f, then g or h -/
def dIf (f g h : Ev → Res) : Ev → Res := fun env => match f env with
  | .ok (.own (.fz (.bool b))) e1 q1 => (match b with
    | true => (g e1).q q1
    | false => (h e1).q q1)
  | .ok _ _ _ => .stuck
  | .exn c e => .exn c e
  | .stuck => .stuck
def truthV : Val → Option Bool
  | .own (.fz .none) => some false
  | .own (.fz (.bool b)) => some b
  | .own (.fz (.int i)) => some (i != 0)
  | .own (.fz (.str y)) => if y.length ≤ SZ then some ((y.length : Int) != 0) else none
  | .own (.fz (.list ds)) => some (!ds.isEmpty)
  | .own (.fz (.tuple ds)) => some (!ds.isEmpty)
  | .own (.lst ms) => some (!ms.isEmpty)
  | .own (.tup ms) => some (!ms.isEmpty)
  | .vw (.lst ms) => some (!ms.isEmpty)
  | .vw (.tup ms) => some (!ms.isEmpty)
  | .own (.dK ks _) => some (!ks.isEmpty)
  | .vw (.dK ks _) => some (!ks.isEmpty)
  | _ => none
section
variable {K : PySem.W.Frag} {mg : Str → Option Value} {H H' H1 H2 : Hp} {G G' Gv Gv' : Addr → Prop} {O O' O1 O2 F F1 F2 : List Addr} {Z : Addr → Prop} {env env1 env2 : Ev} {σ : L2.St}
theorem qj_p {q1 q2 : Ql} (e : q1.j q2 = .p) : q1 = .p ∧ q2 = .p := by cases q1 <;> cases q2 <;> simp [Ql.j] at e ⊢
theorem qj_l {q1 q2 : Ql} (e : q1.j q2 ≠ .l) : q1 ≠ .l ∧ q2 ≠ .l := by cases q1 <;> cases q2 <;> simp [Ql.j] at e ⊢
/-- the values are dropped -/
theorem PostL.drop {vs : List V} {xs : List Val} {q : Ql} (p : PostL K Z O env σ H vs H' xs env1 q) : PostL K Z O env σ H [] H' [] env1 q := by
  obtain ⟨O', F, I, _, _, _, st, qu, pp⟩ := p.ex
  exact ⟨O', [], by rw [Zp_nil]; exact I.weak fun a z => .inl z, .nil, List.Pairwise.nil, (fun _ z => nomatch z), st.weak (fun _ z => nomatch z), qu, fun e => ⟨(pp e).1, (pp e).2.1, rfl⟩⟩
theorem PostL.after {q1 : Ql} (p : PostL K Z O env σ H [] H1 [] env1 q1) : ∃ O1, SI K Z O1 env1 σ H1 ∧ Step O H O1 [] H1 ∧ ∀ {vs : List V} {xs : List Val} {H2 : Hp} {env2 : Ev} {q2 : Ql}, PostL K Z O1 env1 σ H1 vs H2 xs env2 q2 → PostL K Z O env σ H vs H2 xs env2 (q1.j q2) := by
  obtain ⟨O1, F1, I1, r1, _, _, st1, qu1, pp1⟩ := p.ex
  obtain ⟨_, rfl⟩ := r1.nilF
  rw [Zp_nil] at I1
  refine ⟨O1, I1, st1, fun {vs xs H2 env2 q2} p2 => ?_⟩
  obtain ⟨O2, F2, I2, r2, nd, nz, st2, qu2, pp2⟩ := p2.ex
  exact ⟨O2, F2, I2, r2, nd, nz, by simpa using st1.trans st2, fun e a o z => qu2 (qj_l e).2 a o (qu1 (qj_l e).1 a o z), fun e => ⟨(pp2 (qj_p e).2).1.trans (pp1 (qj_p e).1).1, (pp2 (qj_p e).2).2.1.trans (pp1 (qj_p e).1).2.1, (pp2 (qj_p e).2).2.2⟩⟩
theorem dIf_cases {f g h : Ev → Res} {env : Ev} {P : Res → Prop} (hs : f env = .stuck ∨ (∃ x e q, f env = .ok x e q ∧ ∀ b, x ≠ .own (.fz (.bool b))) → P .stuck) (hx : ∀ c e, f env = .exn c e → P (.exn c e))
    (ht : ∀ e q, f env = .ok (.own (.fz (.bool true))) e q → P ((g e).q q)) (hf : ∀ e q, f env = .ok (.own (.fz (.bool false))) e q → P ((h e).q q)) : P (dIf f g h env) := by
  unfold dIf
  cases e : f env with
  | stuck => exact hs (.inl e)
  | exn c e1 => exact hx c e1 e
  | ok x e1 q =>
    cases x with
    | vw m => exact hs (.inr ⟨_, _, _, e, fun b z => nomatch z⟩)
    | own m =>
      cases m with
      | fz d =>
        cases d with
        | bool b =>
          cases b with
          | true => exact ht e1 q e
          | false => exact hf e1 q e
        | none => exact hs (.inr ⟨_, _, _, e, fun b z => by cases z⟩)
        | int i => exact hs (.inr ⟨_, _, _, e, fun b z => by cases z⟩)
        | str i => exact hs (.inr ⟨_, _, _, e, fun b z => by cases z⟩)
        | list i => exact hs (.inr ⟨_, _, _, e, fun b z => by cases z⟩)
        | tuple i => exact hs (.inr ⟨_, _, _, e, fun b z => by cases z⟩)
        | dict i => exact hs (.inr ⟨_, _, _, e, fun b z => by cases z⟩)
      | lst xs => exact hs (.inr ⟨_, _, _, e, fun b z => by cases z⟩)
      | tup xs => exact hs (.inr ⟨_, _, _, e, fun b z => by cases z⟩)
      | dK ks xs => exact hs (.inr ⟨_, _, _, e, fun b z => by cases z⟩)
      | dT ks xs => exact hs (.inr ⟨_, _, _, e, fun b z => by cases z⟩)
/-- a branch's end, after the test -/
theorem PostX.then {cls : Value} {d : Option Addr} {c : Exn} {O1 : List Addr} (st : Step O H O1 [] H1) (p : PostX K mg Z O1 σ H1 cls d H2 c env2) : PostX K mg Z O σ H cls d H2 c env2 := by
  obtain ⟨O2, I2, st2⟩ := p.ex
  exact ⟨⟨O2, I2, (st.trans st2).weak fun _ z => nomatch z⟩, p.er⟩
theorem tu_if {W : WX} {f g h : Ev → Res} {Q : VK} (hq : TU K mg W (dIf f g h) σ H Q) : TUT K mg W f σ H fun c H1 => if c = true then TU K mg W g σ H1 Q else TU K mg W h σ H1 Q := by
  obtain ⟨Z, O, env, I, hq⟩ := hq
  refine ⟨Z, O, env, I, ?_⟩
  revert hq
  have br : ∀ {k : Ev → Res} {e : Ev} {q : Ql} {H1 : Hp}, PostL K Z O env σ H [] H1 [] e q → (match (k e).q q with
      | .ok x env' q => ∀ v H', Post K Z O env σ H v H' x env' q → Q v H'
      | .exn c env' => ∀ cls d H', PostX K mg Z O σ H cls d H' c env' → W cls d σ H'
      | .stuck => False) → TU K mg W k σ H1 Q := fun {k e q H1} p hk => by
    obtain ⟨O1, I1, st1, go⟩ := p.after
    refine ⟨Z, O1, e, I1, ?_⟩
    cases ek : k e with
    | stuck => rw [ek] at hk; exact hk
    | exn c e2 => rw [ek] at hk; exact fun cls d H' px => hk cls d H' (PostX.then st1 px)
    | ok x e2 q2 => rw [ek] at hk; exact fun v H' p2 => hk v H' (go p2)
  refine dIf_cases (P := fun r => EndE K mg W Z O env σ H Q r → EndT K mg W Z O env σ H (fun c H1 => if c = true then TU K mg W g σ H1 Q else TU K mg W h σ H1 Q) (f env)) (fun _ hq => hq.elim) (fun c e ef hq => ?_) (fun e q ef hq => ?_) (fun e q ef hq => ?_)
  · rw [ef]; exact hq
  · rw [ef]; exact ⟨true, rfl, fun H' p => iteT (br p hq)⟩
  · rw [ef]; exact ⟨false, rfl, fun H' p => iteF (br p hq)⟩
theorem tut_if {W : WX} {f g h : Ev → Res} {Q : Bool → Hp → Prop} (hq : TUT K mg W (dIf f g h) σ H Q) : TUT K mg W f σ H fun c H1 => if c = true then TUT K mg W g σ H1 Q else TUT K mg W h σ H1 Q := by
  obtain ⟨Z, O, env, I, hq⟩ := hq
  refine ⟨Z, O, env, I, ?_⟩
  revert hq
  have br : ∀ {k : Ev → Res} {e : Ev} {q : Ql} {H1 : Hp}, PostL K Z O env σ H [] H1 [] e q → (match (k e).q q with
      | .ok x env' q => ∃ b, x = .own (.fz (.bool b)) ∧ ∀ H', PostL K Z O env σ H [] H' [] env' q → Q b H'
      | .exn c env' => ∀ cls d H', PostX K mg Z O σ H cls d H' c env' → W cls d σ H'
      | .stuck => False) → TUT K mg W k σ H1 Q := fun {k e q H1} p hk => by
    obtain ⟨O1, I1, st1, go⟩ := p.after
    refine ⟨Z, O1, e, I1, ?_⟩
    cases ek : k e with
    | stuck => rw [ek] at hk; exact hk
    | exn c e2 => rw [ek] at hk; exact fun cls d H' px => hk cls d H' (PostX.then st1 px)
    | ok x e2 q2 =>
      rw [ek] at hk
      obtain ⟨b, eb, hk⟩ := hk
      exact ⟨b, eb, fun H' p2 => hk H' (go p2)⟩
  refine dIf_cases (P := fun r => EndT K mg W Z O env σ H Q r → EndT K mg W Z O env σ H (fun c H1 => if c = true then TUT K mg W g σ H1 Q else TUT K mg W h σ H1 Q) (f env)) (fun _ hq => hq.elim) (fun c e ef hq => ?_) (fun e q ef hq => ?_) (fun e q ef hq => ?_)
  · rw [ef]; exact hq
  · rw [ef]; exact ⟨true, rfl, fun H' p => iteT (br p hq)⟩
  · rw [ef]; exact ⟨false, rfl, fun H' p => iteF (br p hq)⟩
theorem truth_of {v : V} {vs : List V} {x : Val} {xs : List Val} {b : Bool} (r : RVs K H G Gv (v :: vs) (x :: xs) F) (e : truthV x = some b) : TruV K v H b := by
  have lst : ∀ {m : List M} {G} {F}, RM K H G v (.lst m) F → TruV K v H (!m.isEmpty) := fun r => by
    cases r with
    | lst h rs => exact .inl ⟨_, .inl (.inl h), by cases rs <;> rfl⟩
  have tup : ∀ {m : List M} {G} {F}, RM K H G v (.tup m) F → TruV K v H (!m.isEmpty) := fun r => by
    cases r with
    | tup h rs => exact .inr (.inl ⟨_, h.t, by cases rs <;> rfl⟩)
  have dk : ∀ {ks : List Key} {m : List M} {G} {F}, RM K H G v (.dK ks m) F → TruV K v H (!ks.isEmpty) := fun r => by
    cases r with
    | dK h rs => exact .inr (.inr ⟨_, h, by rw [List.isEmpty_map]⟩)
  unfold truthV at e
  split at e
  · cases e; cases r.fz1.nonI; rfl
  · cases e; cases r.fz1.blI; rfl
  · cases e; cases r.fz1.intI; rfl
  · split at e
    · rename_i hz
      cases e; cases r.fz1.strI; exact ⟨le_sz hz, rfl⟩
    · cases e
  · cases e
    cases r.fz1 with
    | lst h g rs => exact .inl ⟨_, .inl h, by cases rs <;> rfl⟩
  · cases e
    cases r.fz1 with
    | tup h rs => exact .inr (.inl ⟨_, h.t, by cases rs <;> rfl⟩)
  · cases e; obtain ⟨F', r0, _⟩ := r.own1; exact lst r0
  · cases e; obtain ⟨F', r0, _⟩ := r.own1; exact tup r0
  · cases e; obtain ⟨F', r0, _⟩ := r.vw1; exact lst r0
  · cases e; obtain ⟨F', r0, _⟩ := r.vw1; exact tup r0
  · cases e; obtain ⟨F', r0, _⟩ := r.own1; exact dk r0
  · cases e; obtain ⟨F', r0, _⟩ := r.vw1; exact dk r0
  · cases e
/-- a test by the value's truth -/
def kTru : List Val → Option Val
  | [x] => (truthV x).map fun b => .own (.fz (.bool b))
  | _ => none
abbrev dTru (f : Ev → Res) : Ev → Res := dF id kTru [f]
theorem tut_F {W : WX} {qf : Ql → Ql} {k : List Val → Option Val} {fs : List (Ev → Res)} {R : List V → Hp → Prop} {Q : Bool → Hp → Prop} (h : TUT K mg W (dF qf k fs) σ H Q)
    (c : ∀ Z O env env' q xs b, SI K Z O env σ H → k xs = some (.own (.fz (.bool b))) → xs.length = fs.length → ∀ vs H', PostL K Z O env σ H vs H' xs env' q → (∀ H'', PostL K Z O env σ H [] H'' [] env' (qf q) → Q b H'') → R vs H') : TUL K mg W (evs fs) σ H R := by
  obtain ⟨Z, O, env, I, h⟩ := h
  refine ⟨Z, O, env, I, ?_⟩
  unfold dF at h
  cases e : evs fs env with
  | stuck => rw [e] at h; exact h
  | exn c env' => rw [e] at h; exact h
  | ok xs env' q =>
    rw [e] at h
    intro vs H' p
    cases e2 : k xs with
    | none => simp only [e2] at h
    | some y =>
      simp only [e2] at h
      obtain ⟨b, eb, h⟩ := h
      subst eb
      exact c Z O env env' q xs b I e2 (evs_len e) vs H' p h
theorem tut_G {W : WX} {k : List Val → Option (Val × Bool)} {fs : List (Ev → Res)} {R : List V → Hp → Prop} {Q : Bool → Hp → Prop} (h : TUT K mg W (dG k fs) σ H Q)
    (c : ∀ Z O env env' q xs b n, SI K Z O env σ H → k xs = some (.own (.fz (.bool b)), n) → xs.length = fs.length → ∀ vs H', PostL K Z O env σ H vs H' xs env' q → (∀ H'', PostL K Z O env σ H [] H'' [] env' (q.f n) → Q b H'') → R vs H') : TUL K mg W (evs fs) σ H R := by
  obtain ⟨Z, O, env, I, h⟩ := h
  refine ⟨Z, O, env, I, ?_⟩
  unfold dG at h
  cases e : evs fs env with
  | stuck => rw [e] at h; exact h
  | exn c env' => rw [e] at h; exact h
  | ok xs env' q =>
    rw [e] at h
    intro vs H' p
    cases e2 : k xs with
    | none => simp only [e2] at h
    | some yb =>
      obtain ⟨y, n⟩ := yb
      simp only [e2] at h
      obtain ⟨b, eb, h⟩ := h
      subst eb
      exact c Z O env env' q xs b n I e2 (evs_len e) vs H' p h
end
section
variable {X : Cx} {f g h : Ev → Res} {a b c e : Expr} {rest : List Expr} {pos : Pos}
theorem st_tru (he : SE X f e) (hw : ∀ whole, isTrue e X.env whole = (do let v ← whole; standAt e.pos; holding [v] (truthy v)) := by intro _; rfl) : ST X (dTru f) e := fun W tk =>
  PT.imp (pt_truth (he W tk) hw) fun σ H Q hq => tu_one (tut_F hq fun Z O env env' q xs b I hk hl vs H' pl kk v ev => by
    subst ev
    unfold kTru at hk
    split at hk
    · obtain ⟨b', eb, e2⟩ := Option.map_eq_some_iff.mp hk
      cases e2
      obtain ⟨O', F, pa⟩ := pl.ex
      exact ⟨b, truth_of pa.2.1 eb, kk _ pl.drop⟩
    · cases hk)
theorem st_cmp {op : CmpOp} {k : List Val → Option (Val × Bool)} (ho : OpV X (compareOp op) k) (ha : SE X f a) (hb : SE X g b) (hm : behindInMarks op b = false) : ST X (dG k [f, g]) (.Compare a [op] [b] pos) := fun W tk => by
  obtain ⟨r, h1, h2⟩ := ho
  refine PT.imp (pt_cmpR h1 (ha W tk) (hb W tk) hm) fun σ H Q h => tu_two (tut_G h fun Z O env env' q xs b n I hk hl vs H' pl kk v w ev => ?_)
  subst ev
  match xs, hl, hk, pl with
  | [x1, x2], _, hk, pl =>
    refine h2 Z O env env' σ H H' v w x1 x2 _ n q _ pl hk fun v' H'' p => ?_
    obtain ⟨O', F, pa⟩ := p.ex
    exact ⟨b, pa.2.1.fz1.blI, kk _ p.drop⟩
theorem st_not (ha : ST X f a) : ST X (dIf f (dLit (.bool false)) (dLit (.bool true))) (.UnaryOp .Not a pos) := fun W tk =>
  PT.imp (pt_not (ha W tk)) fun σ H Q hq => by
    obtain ⟨Z, O, env, I, hq⟩ := tut_if hq
    refine ⟨Z, O, env, I, ?_⟩
    cases ef : f env with
    | stuck => rw [ef] at hq; exact hq
    | exn c e1 => rw [ef] at hq; exact hq
    | ok x e1 q =>
      rw [ef] at hq
      obtain ⟨b, eb, hq⟩ := hq
      refine ⟨b, eb, fun H' p => ?_⟩
      have z := hq H' p
      cases b with
      | true =>
        rw [if_pos rfl] at z
        obtain ⟨Z, O, env, I, b, eb, z⟩ := z
        cases eb
        exact z _ (PostL.nil I)
      | false =>
        rw [if_neg Bool.false_ne_true] at z
        obtain ⟨Z, O, env, I, b, eb, z⟩ := z
        cases eb
        exact z _ (PostL.nil I)
theorem stw_and1 (ha : ST X f a) : STW X f (.BoolOp .And [a] pos) := fun W tk => pw_and1 (ha W tk)
theorem stw_or1 (ha : ST X f a) : STW X f (.BoolOp .Or [a] pos) := fun W tk => pw_or1 (ha W tk)
theorem tut_mono {K : PySem.W.Frag} {mg : Str → Option Value} {W : WX} {f : Ev → Res} {σ : L2.St} {H : Hp} {Q Q' : Bool → Hp → Prop} (h : TUT K mg W f σ H Q) (qq : ∀ v H', Q v H' → Q' v H') : TUT K mg W f σ H Q' := by
  obtain ⟨Z, O, env, I, h⟩ := h
  refine ⟨Z, O, env, I, ?_⟩
  cases e : f env with
  | stuck => rw [e] at h; exact h
  | exn c e1 => rw [e] at h; exact h
  | ok x e1 q =>
    rw [e] at h
    obtain ⟨b, eb, h⟩ := h
    exact ⟨b, eb, fun H' p => qq b H' (h H' p)⟩
theorem tut_lit {K : PySem.W.Frag} {mg : Str → Option Value} {W : WX} {b : Bool} {σ : L2.St} {H : Hp} {Q : Bool → Hp → Prop} (h : TUT K mg W (dLit (.bool b)) σ H Q) : Q b H := by
  obtain ⟨Z, O, env, I, b, eb, z⟩ := h
  cases eb
  exact z _ (PostL.nil I)
theorem stw_and (ha : ST X f a) (hb : STW X g (.BoolOp .And (b :: rest) pos)) : STW X (dIf f g (dLit (.bool false))) (.BoolOp .And (a :: b :: rest) pos) := fun W tk =>
  PW.imp (pw_and (ha W tk) (hb W tk)) fun σ H Q hq => tut_mono (tut_if hq) fun c H1 z => by
    cases c with
    | true => rw [if_pos rfl] at z ⊢; exact z
    | false => rw [if_neg Bool.false_ne_true] at z ⊢; exact tut_lit z
theorem stw_or (ha : ST X f a) (hb : STW X g (.BoolOp .Or (b :: rest) pos)) : STW X (dIf f (dLit (.bool true)) g) (.BoolOp .Or (a :: b :: rest) pos) := fun W tk =>
  PW.imp (pw_or (ha W tk) (hb W tk)) fun σ H Q hq => tut_mono (tut_if hq) fun c H1 z => by
    cases c with
    | true => rw [if_pos rfl] at z ⊢; exact tut_lit z
    | false => rw [if_neg Bool.false_ne_true] at z ⊢; exact z
theorem se_ife {t : Ev → Res} (hc : ST X t c) (ha : SE X f a) (hb : SE X g b) : SE X (dIf t f g) (.IfExp c a b pos) := fun W tk =>
  PE.imp (pe_ifExp (hc W tk) (ha W tk) (hb W tk)) fun σ H Q hq => tu_if hq
/-! and, or, not as values -/
def dAndV (f g : Ev → Res) : Ev → Res := fun env => match f env with
  | .ok x e1 q1 => (match truthV x with
    | some true => (g e1).q q1
    | some false => .ok x e1 q1
    | none => .stuck)
  | .exn c e => .exn c e
  | .stuck => .stuck
def dOrV (f g : Ev → Res) : Ev → Res := fun env => match f env with
  | .ok x e1 q1 => (match truthV x with
    | some false => (g e1).q q1
    | some true => .ok x e1 q1
    | none => .stuck)
  | .exn c e => .exn c e
  | .stuck => .stuck
theorem se_one {op} (ha : SE X f a) : SE X f (.BoolOp op [a] pos) := fun W tk => pe_one (ha W tk)
theorem br_after {K : PySem.W.Frag} {mg : Str → Option Value} {W : WX} {Z : Addr → Prop} {O : List Addr} {env : Ev} {σ : L2.St} {H : Hp} {Q : VK} {k : Ev → Res} {e : Ev} {q : Ql} {H1 : Hp} (p : PostL K Z O env σ H [] H1 [] e q) (hk : match (k e).q q with
      | .ok x env' q => ∀ v H', Post K Z O env σ H v H' x env' q → Q v H'
      | .exn c env' => ∀ cls d H', PostX K mg Z O σ H cls d H' c env' → W cls d σ H'
      | .stuck => False) : TU K mg W k σ H1 Q := by
  obtain ⟨O1, I1, st1, go⟩ := p.after
  refine ⟨Z, O1, e, I1, ?_⟩
  cases ek : k e with
  | stuck => rw [ek] at hk; exact hk
  | exn c e2 => rw [ek] at hk; exact fun cls d H' px => hk cls d H' (PostX.then st1 px)
  | ok x e2 q2 => rw [ek] at hk; exact fun v H' p2 => hk v H' (go p2)
theorem se_andV (ha : SE X f a) (hb : SE X g (.BoolOp .And (b :: rest) pos)) : SE X (dAndV f g) (.BoolOp .And (a :: b :: rest) pos) := fun W tk =>
  PE.imp (pe_andT (ha W tk) (hb W tk)) fun σ H Q hq => by
    obtain ⟨Z, O, env, I, hq⟩ := hq
    refine ⟨Z, O, env, I, ?_⟩
    unfold dAndV at hq
    cases ef : f env with
    | stuck => rw [ef] at hq; exact hq
    | exn c e1 => rw [ef] at hq; exact hq
    | ok x e1 q =>
      simp only [ef] at hq
      intro v H' p
      obtain ⟨O', F, pa⟩ := id p.ex
      cases et : truthV x with
      | none => simp only [et] at hq
      | some k =>
        refine ⟨k, truth_of pa.2.1 et, ?_⟩
        cases k with
        | true => simp only [et] at hq; rw [if_pos rfl]; exact br_after p.drop hq
        | false => simp only [et] at hq; rw [if_neg Bool.false_ne_true]; exact hq v H' p
theorem se_orV (ha : SE X f a) (hb : SE X g (.BoolOp .Or (b :: rest) pos)) : SE X (dOrV f g) (.BoolOp .Or (a :: b :: rest) pos) := fun W tk =>
  PE.imp (pe_orT (ha W tk) (hb W tk)) fun σ H Q hq => by
    obtain ⟨Z, O, env, I, hq⟩ := hq
    refine ⟨Z, O, env, I, ?_⟩
    unfold dOrV at hq
    cases ef : f env with
    | stuck => rw [ef] at hq; exact hq
    | exn c e1 => rw [ef] at hq; exact hq
    | ok x e1 q =>
      simp only [ef] at hq
      intro v H' p
      obtain ⟨O', F, pa⟩ := id p.ex
      cases et : truthV x with
      | none => simp only [et] at hq
      | some k =>
        refine ⟨k, truth_of pa.2.1 et, ?_⟩
        cases k with
        | true => simp only [et] at hq; rw [if_pos rfl]; exact hq v H' p
        | false => simp only [et] at hq; rw [if_neg Bool.false_ne_true]; exact br_after p.drop hq
def kNot : List Val → Option Val
  | [x] => (truthV x).map fun b => .own (.fz (.bool !b))
  | _ => none
theorem se_notV (ha : SE X f a) : SE X (dF id kNot [f]) (.UnaryOp .Not a pos) := fun W tk =>
  PE.imp (pe_notT (ha W tk)) fun σ H Q hq => tu_one (tul_F hq fun Z O env env' q xs y I hk hl vs H' pl kk v ev => by
    subst ev
    unfold kNot at hk
    split at hk
    · obtain ⟨b', eb, e2⟩ := Option.map_eq_some_iff.mp hk
      cases e2
      obtain ⟨O', F, pa⟩ := pl.ex
      exact ⟨b', truth_of pa.2.1 eb, kk _ _ (pl.plain fun G => .bl _)⟩
    · cases hk)
/-! a < b < c, ints -/
def int2 : List Val → Option (Int × Int)
  | [.own (.fz (.int i)), .own (.fz (.int j))] => some (i, j)
  | _ => none
theorem int2_some {xs : List Val} {i j : Int} (h : int2 xs = some (i, j)) : xs = [.own (.fz (.int i)), .own (.fz (.int j))] := by
  unfold int2 at h
  split at h
  · cases h; rfl
  · cases h
def dChain (p1 p2 : Int → Int → Bool) (f g h : Ev → Res) : Ev → Res := fun env => match evs [f, g] env with
  | .ok xs e1 q1 => (match int2 xs with
    | some (i, j) => (match p1 i j with
      | true => (match h e1 with
        | .ok y e2 q2 => (match isInt y with
          | some k => .ok (.own (.fz (.bool (p2 j k)))) e2 (q1.j q2)
          | none => .stuck)
        | .exn c e => .exn c e
        | .stuck => .stuck)
      | false => .ok (.own (.fz (.bool false))) e1 q1)
    | none => .stuck)
  | .exn c e => .exn c e
  | .stuck => .stuck
theorem tu_chain {K : PySem.W.Frag} {mg : Str → Option Value} {W : WX} {p1 p2 : Int → Int → Bool} {σ : L2.St} {H : Hp} {Q : VK} (hq : TU K mg W (dChain p1 p2 f g h) σ H Q) :
    tChain (rI0 fun i j => .bl (p1 i j)) (rI0 fun i j => .bl (p2 i j)) (TU K mg W f) (TU K mg W g) (TU K mg W h) σ H Q := by
  obtain ⟨Z, O, env, I, hq⟩ := hq
  refine tu_two ⟨Z, O, env, I, ?_⟩
  unfold dChain at hq
  cases e : evs [f, g] env with
  | stuck => rw [e] at hq; exact hq
  | exn c env' => rw [e] at hq; exact hq
  | ok xs e1 q1 =>
    simp only [e] at hq
    intro vs H' p v w ev
    subst ev
    cases e2 : int2 xs with
    | none => simp only [e2] at hq
    | some ij =>
      obtain ⟨i, j⟩ := ij
      simp only [e2] at hq
      have ex := int2_some e2
      subst ex
      obtain ⟨O', F, pa⟩ := id p.ex
      obtain ⟨F', rt, _⟩ := pa.2.1.tail
      refine ⟨i, j, pa.2.1.fz1.intI, rt.fz1.intI, p1 i j, rfl, ?_⟩
      cases e3 : p1 i j with
      | false =>
        simp only [e3] at hq
        rw [if_neg Bool.false_ne_true]
        exact hq _ _ (p.plain fun G => .bl _)
      | true =>
        simp only [e3] at hq
        rw [if_pos rfl]
        obtain ⟨O1, I1, st1, go⟩ := p.drop.after
        refine ⟨Z, O1, e1, I1, ?_⟩
        cases e4 : h e1 with
        | stuck => simp only [e4] at hq
        | exn c e5 => simp only [e4] at hq; exact fun cls d H' px => hq cls d H' (PostX.then st1 px)
        | ok y e5 q2 =>
          simp only [e4] at hq
          intro u H2 p2
          cases e6 : isInt y with
          | none => simp only [e6] at hq
          | some k =>
            simp only [e6] at hq
            have ey := isInt_some e6
            subst ey
            obtain ⟨O2, F2, pa2⟩ := id p2.ex
            exact ⟨j, k, rt.fz1.intI, pa2.2.1.fz1.intI, hq _ _ ((go p2).plain fun G => .bl _)⟩
theorem se_chain {op op' : CmpOp} {p1 p2 : Int → Int → Bool} (h1 : OpR X (compareOp op) (rI0 fun i j => .bl (p1 i j))) (h2 : OpR X (compareOp op') (rI0 fun i j => .bl (p2 i j))) (ha : SE X f a) (hb : SE X g b) (hc : SE X h c)
    (hm : lastMarks [op, op'] [b, c] = false := by with_unfolding_all rfl) : SE X (dChain p1 p2 f g h) (.Compare a [op, op'] [b, c] pos) := fun W tk => PE.imp (pe_chain h1 h2 (ha W tk) (hb W tk) (hc W tk) hm) fun σ H Q hq => tu_chain hq
theorem st_chain {op op' : CmpOp} {p1 p2 : Int → Int → Bool} (h1 : OpR X (compareOp op) (rI0 fun i j => .bl (p1 i j))) (h2 : OpR X (compareOp op') (rI0 fun i j => .bl (p2 i j))) (ha : SE X f a) (hb : SE X g b) (hc : SE X h c)
    (hm : lastMarks [op, op'] [b, c] = false := by with_unfolding_all rfl) : ST X (dChain p1 p2 f g h) (.Compare a [op, op'] [b, c] pos) := fun W tk => PT.imp (pt_chain h1 h2 (ha W tk) (hb W tk) (hc W tk) hm) fun σ H Q hq => by
  refine tu_chain (Q := fun x H' => ∃ k, x = .bl k ∧ Q k H') ?_
  obtain ⟨Z, O, env, I, hq⟩ := hq
  refine ⟨Z, O, env, I, ?_⟩
  cases e : dChain p1 p2 f g h env with
  | stuck => rw [e] at hq; exact hq
  | exn c e1 => rw [e] at hq; exact hq
  | ok x e1 q =>
    rw [e] at hq
    obtain ⟨b, eb, hq⟩ := hq
    intro v H' p
    subst eb
    obtain ⟨O', F, pa⟩ := id p.ex
    exact ⟨b, pa.2.1.fz1.blI, hq _ p.drop⟩
end
end Q

set_option Elab.async false
set_option linter.all false
set_option maxRecDepth 100000
set_option maxHeartbeats 4000000
/-! Calls of built-ins. -/
namespace Q
open PySem PySem.Spec PyProof.Rows L2

def CallV (X : Cx) (f : Value) (k : List Val → Option (Val × Bool)) : Prop :=
  ∃ r, CallR X f r ∧ ∀ Z O env env' σ H H' vs xs z b q Q, PostL X.K Z O env σ H vs H' xs env' q → k xs = some (z, b) → (∀ v' H'', Post X.K Z O env σ H v' H'' z env' (q.f b) → Q v' H'') → r vs H' Q
theorem CallV.or {X : Cx} {f : Value} {k1 k2 : List Val → Option (Val × Bool)} (h1 : CallV X f k1) (h2 : CallV X f k2) : CallV X f (fun xs => (k1 xs).orElse fun _ => k2 xs) := by
  obtain ⟨r1, a1, b1⟩ := h1
  obtain ⟨r2, a2, b2⟩ := h2
  refine ⟨_, a1.or a2, fun Z O env env' σ H H' vs xs z b q Q pl he kk => ?_⟩
  have he : (k1 xs).orElse (fun _ => k2 xs) = some (z, b) := he
  cases e : k1 xs with
  | some d2 =>
    rw [e] at he
    obtain rfl : d2 = (z, b) := Option.some.inj he
    exact .inl (b1 Z O env env' σ H H' vs xs z b q Q pl e kk)
  | none =>
    rw [e] at he
    exact .inr (b2 Z O env env' σ H H' vs xs z b q Q pl he kk)
/-- upon data, a plain datum back -/
theorem callv_of {X : Cx} {f : Value} {r : List V → Hp → VK → Prop} {op : List PyData → Option PyData} (h : CallR X f r) (k : ∀ vs H Q ds d, RFs X.K H Top vs ds → op ds = some d → (∀ v', (∀ G, RF X.K H G v' d) → Q v' H) → r vs H Q) : CallV X f (kPl op) := by
  refine ⟨r, h, fun Z O env env' σ H H' vs xs z b q Q pl he kk => ?_⟩
  obtain ⟨d, e2, e5⟩ := Option.map_eq_some_iff.mp he
  cases e5
  obtain ⟨ds, e3, e4⟩ := Option.bind_eq_some_iff.mp e2
  obtain ⟨O', F, I', rr, _⟩ := pl.ex
  exact k vs H' Q ds d (rr.data e3) e4 fun v' rv => kk v' H' (pl.plain rv)
section
variable {X : Cx} {x : Str} {p pos : Pos} {e : Expr} {es : List Expr} {fs : List (Ev → Res)} {id T : String} {k : List Val → Option (Val × Bool)}
theorem se_callB (hc : CallV X (.builtin id) k) (hg : Gl X x) (hm : X.mg x = none) (hv : bootBuiltins x = some (.builtin id)) (ha : SA X (evs fs) (e :: es)) (hn : x ≠ "__name__" := by decide) (hdb : (x == ("__debug__" : Str)) = false := by decide)
    (he : starEach (e :: es) X.env = (false, eval e X.env) :: starEach es X.env := by rfl) (hpl : (backTo pos (starEach es X.env)).any (·.1) = false := by rfl) : SE X (dG k fs) (.Call (.Name x p) (e :: es) [] pos) := fun W tk => by
  obtain ⟨r, h1, h2⟩ := hc
  exact PE.imp (pe_callB h1 hg hm hv (ha W tk) hn hdb he hpl) fun σ H Q h => tul_G h fun Z O env env' q xs y b I hk hl vs H' pl kk => h2 Z O env env' σ H H' vs xs y b q Q pl hk kk
theorem se_callTy (hc : CallV X (.type T) k) (hg : Gl X x) (hm : X.mg x = none) (hv : bootBuiltins x = some (.type T)) (ha : SA X (evs fs) (e :: es)) (hn : x ≠ "__name__" := by decide) (hdb : (x == ("__debug__" : Str)) = false := by decide)
    (he : starEach (e :: es) X.env = (false, eval e X.env) :: starEach es X.env := by rfl) (hpl : (backTo pos (starEach es X.env)).any (·.1) = false := by rfl) : SE X (dG k fs) (.Call (.Name x p) (e :: es) [] pos) := fun W tk => by
  obtain ⟨r, h1, h2⟩ := hc
  exact PE.imp (pe_callTy h1 hg hm hv (ha W tk) hn hdb he hpl) fun σ H Q h => tul_G h fun Z O env env' q xs y b I hk hl vs H' pl kk => h2 Z O env env' σ H H' vs xs y b q Q pl hk kk
end
section
variable {X : Cx}
/-! ### len -/
def lenV : Val → Option Nat
  | .own (.fz (.list ds)) => some ds.length
  | .own (.fz (.tuple ds)) => some ds.length
  | .own (.fz (.str z)) => if z.length ≤ SZ then some z.length else none
  | .own (.lst ms) => some ms.length
  | .own (.tup ms) => some ms.length
  | .vw (.lst ms) => some ms.length
  | .vw (.tup ms) => some ms.length
  | _ => none
def kLen : List Val → Option (Val × Bool)
  | [x] => (lenV x).map fun (n : Nat) => (.own (.fz (.int (Int.ofNat n))), false)
  | _ => none
theorem callv_len : CallV X (.builtin "len") kLen := by
  refine ⟨_, call_len_seq.or call_len_str, fun Z O env env' σ H H' vs xs z b q Q pl he kk => ?_⟩
  unfold kLen at he
  split at he
  · rename_i x
    obtain ⟨n, hn, e2⟩ := Option.map_eq_some_iff.mp he
    cases e2
    have hl := pl.len
    obtain ⟨O', F, pa⟩ := id pl.ex
    have rr := pa.2.1
    match vs, hl, pl, rr with
    | [v], _, pl, rr =>
      have fin : ∀ m : Nat, m = n → Q (.int (Int.ofNat m)) H' := fun m e => by
        rw [e]; exact kk _ _ (pl.plain fun G => .int _)
      unfold lenV at hn
      split at hn
      · cases hn
        cases rr.fz1 with
        | lst h g rs => exact .inl ⟨_, _, rfl, .inl (.inl h), fin _ rs.length⟩
      · cases hn
        cases rr.fz1 with
        | tup h rs => exact .inl ⟨_, _, rfl, .inr h.t, fin _ rs.length⟩
      · split at hn
        · rename_i hz
          cases hn
          cases rr.fz1.strI
          exact .inr ⟨_, rfl, le_sz hz, fin _ rfl⟩
        · cases hn
      · cases hn
        obtain ⟨F2, r0, _⟩ := rr.own1
        cases r0 with
        | lst h rs => exact .inl ⟨_, _, rfl, .inl (.inl (.inl h)), fin _ rs.length⟩
      · cases hn
        obtain ⟨F2, r0, _⟩ := rr.own1
        cases r0 with
        | tup h rs => exact .inl ⟨_, _, rfl, .inr h.t, fin _ rs.length⟩
      · cases hn
        obtain ⟨F2, r0, _⟩ := rr.vw1
        cases r0 with
        | lst h rs => exact .inl ⟨_, _, rfl, .inl (.inl (.inl h)), fin _ rs.length⟩
      · cases hn
        obtain ⟨F2, r0, _⟩ := rr.vw1
        cases r0 with
        | tup h rs => exact .inl ⟨_, _, rfl, .inr h.t, fin _ rs.length⟩
      · cases hn
  · cases he
/-! ### tuple(x), list(x) -/
def seqv (x : Val) : Option (List PyData) := (lv x).orElse fun _ => tv x
def kTupOf : List Val → Option (Val × Bool)
  | [x] => (seqv x).map fun ds => (.own (.fz (.tuple ds)), true)
  | _ => none
def kLstOf : List Val → Option (Val × Bool)
  | [x] => (seqv x).map fun ds => (.own (.lst (ds.map .fz)), true)
  | _ => none
theorem RVs.seqv {K : PySem.W.Frag} {H : Hp} {G Gv : Addr → Prop} {F : List Addr} {v : V} {vs : List V} {x : Val} {xs : List Val} {ds : List PyData} (r : RVs K H G Gv (v :: vs) (x :: xs) F) (e : seqv x = some ds) : ∃ a ws, v = .ref a ∧ (SqL K H a ws ∨ SqN K H a ws) ∧ RFs K H G ws ds := by
  unfold Q.seqv at e
  cases e1 : Q.lv x with
  | some d =>
    rw [e1] at e
    cases e
    obtain ⟨a, ws, h1, h2, h3⟩ := r.lv e1
    exact ⟨a, ws, h1, .inl (.inl h2), h3⟩
  | none =>
    rw [e1] at e
    obtain ⟨a, ws, h1, h2, h3⟩ := r.tv e
    exact ⟨a, ws, h1, .inr h2, h3⟩
theorem callv_tup : CallV X (.type "tuple") kTupOf := by
  refine ⟨_, call_tupX, fun Z O env env' σ H H' vs xs z b q Q pl he kk => ?_⟩
  unfold kTupOf at he
  split at he
  · rename_i x
    obtain ⟨ds, hn, e2⟩ := Option.map_eq_some_iff.mp he
    cases e2
    have hl := pl.len
    obtain ⟨O', F, pa⟩ := id pl.ex
    match vs, hl, pl, pa with
    | [v], _, pl, pa =>
      obtain ⟨a, ws, rfl, h2, h3⟩ := pa.2.1.seqv hn
      rcases h2 with h2 | h2
      · exact ⟨a, ws, rfl, .inl ⟨h2, fun p o hp ho => kk _ _ (pa.newT h3 hp ho)⟩⟩
      · exact ⟨a, ws, rfl, .inr ⟨h2.t, kk _ _ (Post.wn (pa.keepF (.tup h2 h3)))⟩⟩
  · cases he
theorem callv_lst : CallV X (.type "list") kLstOf := by
  refine ⟨_, call_list_of, fun Z O env env' σ H H' vs xs z b q Q pl he kk => ?_⟩
  unfold kLstOf at he
  split at he
  · rename_i x
    obtain ⟨ds, hn, e2⟩ := Option.map_eq_some_iff.mp he
    cases e2
    have hl := pl.len
    obtain ⟨O', F, pa⟩ := id pl.ex
    match vs, hl, pl, pa with
    | [v], _, pl, pa =>
      obtain ⟨a, ws, rfl, h2, h3⟩ := pa.2.1.seqv hn
      exact ⟨a, ws, rfl, (h2.imp id SqN.t), fun p hp => kk _ _ (pa.newL h3.tms (List.nil_sublist _) hp)⟩
  · cases he
/-! ### intsD -/
theorem RFs.v1 {K : PySem.W.Frag} {H : Hp} {G : Addr → Prop} {vs : List V} {d : PyData} (r : RFs K H G vs [d]) : ∃ v, vs = [v] ∧ RF K H G v d := by
  cases r with
  | cons h t => cases t; exact ⟨_, rfl, h⟩
theorem RFs.v2 {K : PySem.W.Frag} {H : Hp} {G : Addr → Prop} {vs : List V} {d e : PyData} (r : RFs K H G vs [d, e]) : ∃ v w, vs = [v, w] ∧ RF K H G v d ∧ RF K H G w e := by
  cases r with
  | cons h t =>
    obtain ⟨w, rfl, h2⟩ := t.v1
    exact ⟨_, w, rfl, h, h2⟩
def oAbs : List PyData → Option PyData
  | [.int i] => some (.int (if i < 0 then -i else i))
  | _ => none
theorem callv_abs : CallV X (.builtin "abs") (kPl oAbs) := callv_of call_abs fun vs H Q ds d hd he k => by
  unfold oAbs at he
  split at he
  · cases he
    obtain ⟨v, rfl, r⟩ := hd.v1
    exact ⟨_, by rw [r.intI], k _ fun G => .int _⟩
  · cases he
def oInt : List PyData → Option PyData
  | [.int i] => some (.int i)
  | [.bool b] => some (.int (if b then 1 else 0))
  | _ => none
theorem callv_int : CallV X (.type "int") (kPl oInt) := callv_of call_int1 fun vs H Q ds d hd he k => by
  unfold oInt at he
  split at he
  · cases he
    obtain ⟨v, rfl, r⟩ := hd.v1
    exact .inl ⟨_, by rw [r.intI], k _ fun G => .int _⟩
  · cases he
    obtain ⟨v, rfl, r⟩ := hd.v1
    exact .inr ⟨_, by rw [r.blI], k _ fun G => .int _⟩
  · cases he
/-- the intsD of a row -/
def intsD : List PyData → Option (List Int)
  | [] => some []
  | .int i :: r => (intsD r).map fun l => i :: l
  | _ :: _ => none
def boolsD : List PyData → Option (List Bool)
  | [] => some []
  | .bool i :: r => (boolsD r).map fun l => i :: l
  | _ :: _ => none
theorem RFs.intsD {K : PySem.W.Frag} {H : Hp} {G : Addr → Prop} : ∀ {vs : List V} {ds : List PyData} {ns : List Int}, RFs K H G vs ds → intsD ds = some ns → vs = ns.map V.int
  | _, _, _, .nil, e => by unfold Q.intsD at e; cases e; rfl
  | _, _, _, .cons h t, e => by
    unfold Q.intsD at e
    split at e
    · rename_i heq; cases heq
    · rename_i heq
      cases heq
      obtain ⟨l, e1, rfl⟩ := Option.map_eq_some_iff.mp e
      rw [List.map_cons, h.intI, RFs.intsD t e1]
    · cases e
theorem RFs.boolsD {K : PySem.W.Frag} {H : Hp} {G : Addr → Prop} : ∀ {vs : List V} {ds : List PyData} {ns : List Bool}, RFs K H G vs ds → boolsD ds = some ns → vs = ns.map V.bl
  | _, _, _, .nil, e => by unfold Q.boolsD at e; cases e; rfl
  | _, _, _, .cons h t, e => by
    unfold Q.boolsD at e
    split at e
    · rename_i heq; cases heq
    · rename_i heq
      cases heq
      obtain ⟨l, e1, rfl⟩ := Option.map_eq_some_iff.mp e
      rw [List.map_cons, h.blI, RFs.boolsD t e1]
    · cases e
def oSum : List PyData → Option PyData
  | [.list ds] => (intsD ds).map fun ns => .int ns.sum
  | _ => none
def oAll : List PyData → Option PyData
  | [.list ds] => (boolsD ds).map fun bs => .bool (bs.all fun b => b)
  | _ => none
def oAny : List PyData → Option PyData
  | [.list ds] => (boolsD ds).map fun bs => .bool (bs.any fun b => b)
  | _ => none
theorem callv_sum (hc : X.calm = true) : CallV X (.builtin "sum") (kPl oSum) := callv_of (cr_sum hc) fun vs H Q ds d hd he k => by
  unfold oSum at he
  split at he
  · obtain ⟨ns, e, rfl⟩ := Option.map_eq_some_iff.mp he
    obtain ⟨v, rfl, r⟩ := hd.v1
    cases r with
    | lst h g rs => exact ⟨_, ns, rfl, .inl (by rw [← rs.intsD e]; exact h), k _ fun G => .int _⟩
  · cases he
theorem callv_all (hc : X.calm = true) : CallV X (.builtin "all") (kPl oAll) := callv_of (cr_all hc) fun vs H Q ds d hd he k => by
  unfold oAll at he
  split at he
  · obtain ⟨ns, e, rfl⟩ := Option.map_eq_some_iff.mp he
    obtain ⟨v, rfl, r⟩ := hd.v1
    cases r with
    | lst h g rs => exact ⟨_, ns, rfl, .inl (by rw [← rs.boolsD e]; exact h), k _ fun G => .bl _⟩
  · cases he
theorem callv_any (hc : X.calm = true) : CallV X (.builtin "any") (kPl oAny) := callv_of (cr_any hc) fun vs H Q ds d hd he k => by
  unfold oAny at he
  split at he
  · obtain ⟨ns, e, rfl⟩ := Option.map_eq_some_iff.mp he
    obtain ⟨v, rfl, r⟩ := hd.v1
    cases r with
    | lst h g rs => exact ⟨_, ns, rfl, .inl (by rw [← rs.boolsD e]; exact h), k _ fun G => .bl _⟩
  · cases he
def maxI : List Int → Option Int
  | [] => none
  | x :: r => some (r.foldl max x)
def minI : List Int → Option Int
  | [] => none
  | x :: r => some (r.foldl min x)
theorem foldl_max : ∀ (r : List Int) (x : Int), (r.foldl max x = x ∨ r.foldl max x ∈ r) ∧ x ≤ r.foldl max x ∧ ∀ y ∈ r, y ≤ r.foldl max x
  | [], x => ⟨.inl rfl, Int.le_refl _, fun _ z => nomatch z⟩
  | y :: r, x => by
    obtain ⟨h1, h2, h3⟩ := foldl_max r (max x y)
    rw [List.foldl_cons]
    refine ⟨?_, by omega, fun z hz => ?_⟩
    · rcases h1 with h | h
      · rw [h]
        by_cases q : x ≤ y
        · exact .inr (by rw [Int.max_eq_right q]; exact List.mem_cons_self)
        · exact .inl (Int.max_eq_left (by omega))
      · exact .inr (List.mem_cons_of_mem _ h)
    · rcases List.mem_cons.mp hz with e | hz
      · subst e; omega
      · exact h3 z hz
theorem foldl_min : ∀ (r : List Int) (x : Int), (r.foldl min x = x ∨ r.foldl min x ∈ r) ∧ r.foldl min x ≤ x ∧ ∀ y ∈ r, r.foldl min x ≤ y
  | [], x => ⟨.inl rfl, Int.le_refl _, fun _ z => nomatch z⟩
  | y :: r, x => by
    obtain ⟨h1, h2, h3⟩ := foldl_min r (min x y)
    rw [List.foldl_cons]
    refine ⟨?_, by omega, fun z hz => ?_⟩
    · rcases h1 with h | h
      · rw [h]
        by_cases q : x ≤ y
        · exact .inl (Int.min_eq_left q)
        · exact .inr (by rw [Int.min_eq_right (by omega)]; exact List.mem_cons_self)
      · exact .inr (List.mem_cons_of_mem _ h)
    · rcases List.mem_cons.mp hz with e | hz
      · subst e; omega
      · exact h3 z hz
theorem maxI_some {ns : List Int} {m : Int} (h : maxI ns = some m) : m ∈ ns ∧ ∀ y ∈ ns, y ≤ m := by
  cases ns with
  | nil => cases h
  | cons x r =>
    cases h
    obtain ⟨h1, h2, h3⟩ := foldl_max r x
    refine ⟨?_, fun y hy => ?_⟩
    · rcases h1 with h | h
      · rw [h]; exact List.mem_cons_self
      · exact List.mem_cons_of_mem _ h
    · rcases List.mem_cons.mp hy with e | hy
      · subst e; exact h2
      · exact h3 y hy
theorem minI_some {ns : List Int} {m : Int} (h : minI ns = some m) : m ∈ ns ∧ ∀ y ∈ ns, m ≤ y := by
  cases ns with
  | nil => cases h
  | cons x r =>
    cases h
    obtain ⟨h1, h2, h3⟩ := foldl_min r x
    refine ⟨?_, fun y hy => ?_⟩
    · rcases h1 with h | h
      · rw [h]; exact List.mem_cons_self
      · exact List.mem_cons_of_mem _ h
    · rcases List.mem_cons.mp hy with e | hy
      · subst e; exact h2
      · exact h3 y hy
def oMax : List PyData → Option PyData
  | [.int i, .int j] => some (.int (if j > i then j else i))
  | [.list ds] => (intsD ds).bind fun ns => (maxI ns).map .int
  | _ => none
def oMin : List PyData → Option PyData
  | [.int i, .int j] => some (.int (if j < i then j else i))
  | [.list ds] => (intsD ds).bind fun ns => (minI ns).map .int
  | _ => none
theorem callv_max (hc : X.calm = true) : CallV X (.builtin "max") (kPl oMax) := callv_of ((call_max2 hc).or (cr_max hc)) fun vs H Q ds d hd he k => by
  unfold oMax at he
  split at he
  · cases he
    obtain ⟨v, w, rfl, r1, r2⟩ := hd.v2
    exact .inl ⟨_, _, by rw [r1.intI, r2.intI], k _ fun G => .int _⟩
  · obtain ⟨ns, e, he⟩ := Option.bind_eq_some_iff.mp he
    obtain ⟨m, em, rfl⟩ := Option.map_eq_some_iff.mp he
    obtain ⟨m1, m2⟩ := maxI_some em
    obtain ⟨v, rfl, r⟩ := hd.v1
    cases r with
    | lst h g rs =>
      refine .inr ⟨_, ns, rfl, .inl (by rw [← rs.intsD e]; exact h), List.length_pos_of_mem m1, fun m' h1 h2 => ?_⟩
      have : m' = m := Int.le_antisymm (m2 m' h1) (h2 m m1)
      rw [this]
      exact k _ fun G => .int _
  · cases he
theorem callv_min (hc : X.calm = true) : CallV X (.builtin "min") (kPl oMin) := callv_of ((call_min2 hc).or (cr_min hc)) fun vs H Q ds d hd he k => by
  unfold oMin at he
  split at he
  · cases he
    obtain ⟨v, w, rfl, r1, r2⟩ := hd.v2
    exact .inl ⟨_, _, by rw [r1.intI, r2.intI], k _ fun G => .int _⟩
  · obtain ⟨ns, e, he⟩ := Option.bind_eq_some_iff.mp he
    obtain ⟨m, em, rfl⟩ := Option.map_eq_some_iff.mp he
    obtain ⟨m1, m2⟩ := minI_some em
    obtain ⟨v, rfl, r⟩ := hd.v1
    cases r with
    | lst h g rs =>
      refine .inr ⟨_, ns, rfl, .inl (by rw [← rs.intsD e]; exact h), List.length_pos_of_mem m1, fun m' h1 h2 => ?_⟩
      have : m' = m := Int.le_antisymm (h2 m m1) (m2 m' h1)
      rw [this]
      exact k _ fun G => .int _
  · cases he
end
/-! ### isinstance -/
inductive Ty where
  | int | bool | str | tuple | list
def Ty.isI : Ty → Bool
  | .int => true | _ => false
def Ty.isB : Ty → Bool
  | .int => true | .bool => true | _ => false
def Ty.isS : Ty → Bool
  | .str => true | _ => false
def Ty.isT : Ty → Bool
  | .tuple => true | _ => false
def Ty.isL : Ty → Bool
  | .list => true | _ => false
def Ty.n : Ty → String
  | .int => "int" | .bool => "bool" | .str => "str" | .tuple => "tuple" | .list => "list"
def isiD : Ty → PyData → Option Bool
  | t, .none => some false
  | t, .bool _ => some t.isB
  | t, .int _ => some t.isI
  | t, .str _ => some t.isS
  | t, .tuple _ => some t.isT
  | t, .list _ => some t.isL
  | _, .dict _ => none
def isiV (t : Ty) : Val → Option Bool
  | .own (.fz d) => isiD t d
  | .own (.lst _) => some t.isL
  | .own (.tup _) => some t.isT
  | .vw (.lst _) => some t.isL
  | .vw (.tup _) => some t.isT
  | _ => none
def kIsi (t : Ty) : List Val → Option Val
  | [x] => (isiV t x).map fun b => .own (.fz (.bool b))
  | _ => none
section
variable {X : Cx}
theorem kit1 {K : PySem.W.Frag} {a b : String} {r : Bool} (h : kitB a b = some r) : PySem.W.kitOne K (.type a) (.type b) = some r := kit_ty h
theorem ty_lst {K : PySem.W.Frag} {H : Hp} {a : Addr} {xs : List V} (h : L2.Rd H a (.lst xs)) : TyX K H (.ref a) (.type "list") := by
  rcases h with h | ⟨o, h⟩
  · exact .base (.lst h)
  · exact .base (.frz h)
theorem ty_tup {K : PySem.W.Frag} {H : Hp} {a : Addr} {xs : List V} (h : SqT K H a xs) : TyX K H (.ref a) (.type "tuple") := by
  rcases h with (h | ⟨o, h⟩) | ⟨o, its, n, h, c, _⟩
  · exact .base (.tup h)
  · exact .fTuple h
  · exact .kTuple h c
theorem isi_of {K : PySem.W.Frag} {H : Hp} {G Gv : Addr → Prop} {F : List Addr} {v : V} {vs : List V} {x : Val} {xs : List Val} {t : Ty} {b : Bool} (r : RVs K H G Gv (v :: vs) (x :: xs) F) (e : isiV t x = some b) : ∃ u, TyX K H v u ∧ PySem.W.kitOne K u (.type t.n) = some b := by
  have lst : ∀ {a : Addr} {ws : List V}, L2.Rd H a (.lst ws) → ∃ u, TyX K H (.ref a) u ∧ PySem.W.kitOne K u (.type t.n) = some t.isL := fun h =>
    ⟨_, ty_lst h, by cases t <;> exact kit1 (by decide +kernel)⟩
  have tup : ∀ {a : Addr} {ws : List V}, SqT K H a ws → ∃ u, TyX K H (.ref a) u ∧ PySem.W.kitOne K u (.type t.n) = some t.isT := fun h =>
    ⟨_, ty_tup h, by cases t <;> exact kit1 (by decide +kernel)⟩
  unfold isiV at e
  split at e
  · have r0 := r.fz1
    cases r0 with
    | non => cases e; exact ⟨_, .base .non, by cases t <;> exact kit1 (by decide +kernel)⟩
    | bl k => cases e; exact ⟨_, .base (.bl k), by cases t <;> exact kit1 (by decide +kernel)⟩
    | int i => cases e; exact ⟨_, .base (.int i), by cases t <;> exact kit1 (by decide +kernel)⟩
    | str i => cases e; exact ⟨_, .base (.str i), by cases t <;> exact kit1 (by decide +kernel)⟩
    | lst h g rs => cases e; exact lst h
    | tup h rs => cases e; exact tup h.t
  · cases e
    obtain ⟨F2, r0, _⟩ := r.own1
    cases r0 with
    | lst h rs => exact lst (.inl h)
  · cases e
    obtain ⟨F2, r0, _⟩ := r.own1
    cases r0 with
    | tup h rs => exact tup h.t
  · cases e
    obtain ⟨F2, r0, _⟩ := r.vw1
    cases r0 with
    | lst h rs => exact lst (.inl h)
  · cases e
    obtain ⟨F2, r0, _⟩ := r.vw1
    cases r0 with
    | tup h rs => exact tup h.t
  · cases e
theorem se_isi (t : Ty) {f : Ev → Res} {e : Expr} {p p2 pos : Pos} (he : SE X f e) (hg : Gl X "isinstance") (hm : X.mg "isinstance" = none) (hg2 : Gl X (Str.ofString t.n)) (hm2 : X.mg (Str.ofString t.n) = none) (hv2 : bootBuiltins (Str.ofString t.n) = some (.type t.n))
    (hn : Str.ofString t.n ≠ "__name__") (hd : (Str.ofString t.n == ("__debug__" : Str)) = false)
    (hs : starEach [e, .Name (Str.ofString t.n) p2] X.env = (false, eval e X.env) :: starEach [.Name (Str.ofString t.n) p2] X.env := by rfl) (hpl : (backTo pos (starEach [.Name (Str.ofString t.n) p2] X.env)).any (·.1) = false := by rfl) : SE X (dF id (kIsi t) [f]) (.Call (.Name "isinstance" p) [e, .Name (Str.ofString t.n) p2] [] pos) := fun W tk =>
  PE.imp (pe_callB (hv := by decide +kernel) call_isi hg hm (pa_cons (hs := hs) (he W tk) (pa_cons (pe_bltn (v := .ty t.n) hg2 hm2 hv2 rfl hn hd) pa_nil)) (he := hs) (hpl := hpl)) fun σ H Q hq => tu_one (tul_F hq fun Z O env env' q xs y I hk hl vs H' pl kk v ev => by
    subst ev
    unfold kIsi at hk
    split at hk
    · obtain ⟨b, eb, e2⟩ := Option.map_eq_some_iff.mp hk
      cases e2
      obtain ⟨O', F, pa⟩ := pl.ex
      obtain ⟨u, h1, h2⟩ := isi_of pa.2.1 eb
      exact ⟨v, .ty t.n, u, .type t.n, b, rfl, .ty _, h1, h2, kk _ _ (pl.plain fun G => .bl _)⟩
    · cases hk)
end
end Q

set_option Elab.async false
set_option linter.all false
set_option maxRecDepth 100000
set_option maxHeartbeats 4000000
/-! Statements. -/
namespace Q
open PySem PySem.Spec PyProof.Rows L2

inductive Out where
  | nx (env : Ev)
  | ret (m : M) (env : Ev)
  | brk (env : Ev)
  | ct (env : Ev)
  | exn (c : Exn) (env : Ev)
  | stuck
/-- the names of io hold their values -/
def Held (io : Nat → Bool) (σ σ' : L2.St) : Prop := σ'.length = σ.length ∧ ∀ i, io i = true → σ'[i]? = σ[i]?
structure PostS (K : PySem.W.Frag) (Z : Addr → Prop) (O : List Addr) (io : Nat → Bool) (σ : L2.St) (H : Hp) (env' : Ev) (σ' : L2.St) (H' : Hp) : Prop where
  ex : ∃ O', SI K Z O' env' σ' H' ∧ Step O H O' [] H'
  io : Held io σ σ'
structure PostR (K : PySem.W.Frag) (Z : Addr → Prop) (O : List Addr) (io : Nat → Bool) (σ : L2.St) (H : Hp) (m : M) (env' : Ev) (v : V) (σ' : L2.St) (H' : Hp) : Prop where
  ex : ∃ O' F, SI K (Zp Z F) O' env' σ' H' ∧ RM K H' (fun a => ¬ Z a ∧ a ∉ O' ∧ a ∉ F) v m F ∧ F.Nodup ∧ (∀ a ∈ F, ¬ Z a) ∧ Step O H O' F H'
  io : Held io σ σ'
structure PostXS (K : PySem.W.Frag) (mg : Str → Option Value) (Z : Addr → Prop) (O : List Addr) (io : Nat → Bool) (σ : L2.St) (H : Hp) (c : Exn) (env' : Ev) (cls : Value) (d : Option Addr) (σ' : L2.St) (H' : Hp) : Prop where
  ex : ∃ O', SI K Z O' env' σ' H' ∧ Step O H O' [] H'
  io : Held io σ σ'
  er : ExnR K mg H' c cls d
def EndS (K : PySem.W.Frag) (mg : Str → Option Value) (W : WX) (io : Nat → Bool) (D : Ends) (Z : Addr → Prop) (O : List Addr) (σ : L2.St) (H : Hp) : Out → Prop
  | .nx e => ∀ σ' H', PostS K Z O io σ H e σ' H' → D.nx σ' H'
  | .ret m e => ∀ v σ' H', PostR K Z O io σ H m e v σ' H' → D.rt v H'
  | .brk e => ∀ σ' H', PostS K Z O io σ H e σ' H' → D.bk σ' H'
  | .ct e => ∀ σ' H', PostS K Z O io σ H e σ' H' → D.ct σ' H'
  | .exn c e => ∀ cls d σ' H', PostXS K mg Z O io σ H c e cls d σ' H' → W cls d σ' H'
  | .stuck => False
def TUS (K : PySem.W.Frag) (mg : Str → Option Value) (W : WX) (io : Nat → Bool) (den : Ev → Out) : TS := fun D σ H => ∃ Z O env, SI K Z O env σ H ∧ EndS K mg W io D Z O σ H (den env)
def SS (X : Cx) (io : Nat → Bool) (den : Ev → Out) (s : Stmt) : Prop := ∀ W, Takes X W → PS X s (TUS X.K X.mg W io den)
def SSs (X : Cx) (io : Nat → Bool) (den : Ev → Out) (s : List Stmt) : Prop := ∀ W, Takes X W → PSs X s (TUS X.K X.mg W io den)
section
variable {K : PySem.W.Frag} {mg : Str → Option Value} {H H' H1 H2 : Hp} {G G' Gv Gv' : Addr → Prop} {O O' O1 O2 F F1 F2 : List Addr} {Z : Addr → Prop} {env env1 env2 : Ev} {σ σ1 σ' : L2.St} {io : Nat → Bool} {W : WX} {D : Ends}
theorem Held.refl : Held io σ σ := ⟨rfl, fun _ _ => rfl⟩
theorem Held.trans (a : Held io σ σ1) (b : Held io σ1 σ') : Held io σ σ' := ⟨b.1.trans a.1, fun i h => (b.2 i h).trans (a.2 i h)⟩
theorem Held.set {i : Nat} {x : Option V} (h : io i = false) : Held io σ (σ.set i x) := ⟨List.length_set, fun j hj => by
  rw [List.getElem?_set_ne]
  rintro rfl
  rw [h] at hj; cases hj⟩
theorem Step.tr0 (a : Step O H O1 [] H1) (b : Step O1 H1 O2 F2 H2) : Step O H O2 F2 H2 := by simpa using a.trans b
theorem PostS.thenS {e : Ev} (st : Step O H O1 [] H1) (hi : Held io σ σ1) (p : PostS K Z O1 io σ1 H1 e σ' H') : PostS K Z O io σ H e σ' H' := by
  obtain ⟨O2, I, s⟩ := p.ex
  exact ⟨⟨O2, I, st.tr0 s⟩, hi.trans p.io⟩
theorem EndS.after (st : Step O H O1 [] H1) (hi : Held io σ σ1) : ∀ {r : Out}, EndS K mg W io D Z O σ H r → EndS K mg W io D Z O1 σ1 H1 r
  | .nx e, h => fun σ' H' p => h σ' H' (p.thenS st hi)
  | .ret m e, h => fun v σ' H' p => by
    obtain ⟨O2, F, I, r, nd, nz, s⟩ := p.ex
    exact h v σ' H' ⟨⟨O2, F, I, r, nd, nz, st.tr0 s⟩, hi.trans p.io⟩
  | .brk e, h => fun σ' H' p => h σ' H' (p.thenS st hi)
  | .ct e, h => fun σ' H' p => h σ' H' (p.thenS st hi)
  | .exn c e, h => fun cls d σ' H' p => by
    obtain ⟨O2, I, s⟩ := p.ex
    exact h cls d σ' H' ⟨⟨O2, I, st.tr0 s⟩, hi.trans p.io, p.er⟩
  | .stuck, h => h
/-- behind an evaluation whose value is dropped -/
theorem PostL.to {vs : List V} {xs : List Val} {q : Ql} (p : PostL K Z O env σ H vs H' xs env1 q) : ∃ O1, SI K Z O1 env1 σ H' ∧ Step O H O1 [] H' := by
  obtain ⟨O1, I, st, _⟩ := p.drop.after
  exact ⟨O1, I, st⟩
theorem EndS.exn {c : Exn} {e : Ev} (h : EndS K mg W io D Z O σ H (.exn c e)) : ∀ cls d H', PostX K mg Z O σ H cls d H' c e → W cls d σ H' := fun cls d H' p => h cls d σ H' ⟨p.ex, Held.refl, p.er⟩

/-! ### blocks -/
def dNx : Ev → Out := fun env => .nx env
def dSeq (a b : Ev → Out) : Ev → Out := fun env => match a env with
  | .nx e => b e
  | r => r
theorem tus_seq {a b : Ev → Out} (h : TUS K mg W io (dSeq a b) D σ H) : TUS K mg W io a { D with nx := TUS K mg W io b D } σ H := by
  obtain ⟨Z, O, env, I, h⟩ := h
  refine ⟨Z, O, env, I, ?_⟩
  unfold dSeq at h
  cases e : a env with
  | nx e1 =>
    rw [e] at h
    intro σ' H' p
    obtain ⟨O1, I1, st⟩ := p.ex
    exact ⟨Z, O1, e1, I1, h.after st p.io⟩
  | ret m e1 => rw [e] at h; exact h
  | brk e1 => rw [e] at h; exact h
  | ct e1 => rw [e] at h; exact h
  | exn c e1 => rw [e] at h; exact h
  | stuck => rw [e] at h; exact h
theorem tus_nx (h : TUS K mg W io dNx D σ H) : D.nx σ H := by
  obtain ⟨Z, O, env, I, h⟩ := h
  exact h σ H ⟨⟨O, I, Step.refl⟩, Held.refl⟩
end
section
variable {X : Cx} {io : Nat → Bool} {a b : Ev → Out} {f g h : Ev → Res} {s : Stmt} {ss : List Stmt} {e : Expr} {pos : Pos}
theorem sss_nil : SSs X io dNx [] := fun W tk => PSs.imp pss_nil fun D σ H h => tus_nx h
theorem sss_cons (h1 : SS X io a s) (h2 : SSs X io b ss) : SSs X io (dSeq a b) (s :: ss) := fun W tk => PSs.imp (pss_cons (h1 W tk) (h2 W tk)) fun D σ H h => tus_seq h
theorem sss_one (h1 : SS X io a s) : SSs X io a [s] := fun W tk => pss_one (h1 W tk)
theorem ss_pass : SS X io dNx (.Pass pos) := fun W tk => PS.imp ps_pass fun D σ H h => tus_nx h
def dBrk : Ev → Out := fun env => .brk env
def dCt : Ev → Out := fun env => .ct env
theorem ss_break : SS X io dBrk (.Break pos) := fun W tk => PS.imp ps_break fun D σ H ⟨Z, O, env, I, h⟩ => h σ H ⟨⟨O, I, Step.refl⟩, Held.refl⟩
theorem ss_continue : SS X io dCt (.Continue pos) := fun W tk => PS.imp ps_continue fun D σ H ⟨Z, O, env, I, h⟩ => h σ H ⟨⟨O, I, Step.refl⟩, Held.refl⟩
theorem ss_never : SS X io (fun _ => .stuck) s := fun W tk => PS.imp ps_never fun D σ H ⟨_, _, _, _, h⟩ => h
/-- an expression statement -/
def dEx (f : Ev → Res) : Ev → Out := fun env => match f env with
  | .ok _ e _ => .nx e
  | .exn c e => .exn c e
  | .stuck => .stuck
theorem ss_expr (he : SE X f e) (hs : swapsWith e none pos.line X.env = pure false := by rfl) : SS X io (dEx f) (.Expr e pos) := fun W tk => PS.imp (ps_expr (he W tk) hs) fun D σ H ⟨Z, O, env, I, h⟩ => by
  refine ⟨Z, O, env, I, ?_⟩
  unfold dEx at h
  cases ef : f env with
  | stuck => rw [ef] at h; exact h
  | exn c e1 => rw [ef] at h; exact EndS.exn h
  | ok x e1 q =>
    rw [ef] at h
    intro v H' p
    obtain ⟨O1, I1, st⟩ := p.to
    exact h σ H' ⟨⟨O1, I1, st⟩, Held.refl⟩
/-- return -/
def dRet (f : Ev → Res) : Ev → Out := fun env => match f env with
  | .ok (.own m) e _ => .ret m e
  | .ok (.vw _) _ _ => .stuck
  | .exn c e => .exn c e
  | .stuck => .stuck
theorem Post.own1 {K : PySem.W.Frag} {Z : Addr → Prop} {O : List Addr} {env env1 : Ev} {σ : L2.St} {H H' : Hp} {v : V} {m : M} {q : Ql} (p : Post K Z O env σ H v H' (.own m) env1 q) :
    ∃ O' F, SI K (Zp Z F) O' env1 σ H' ∧ RM K H' (fun a => ¬ Z a ∧ a ∉ O' ∧ a ∉ F) v m F ∧ F.Nodup ∧ (∀ a ∈ F, ¬ Z a) ∧ Step O H O' F H' := by
  obtain ⟨O', F, I, r, nd, nz, st, _⟩ := p.ex
  cases r with
  | own h hr => cases hr; rw [List.append_nil] at *; exact ⟨O', _, I, h, nd, nz, st⟩
theorem ss_ret (he : SE X f e) : SS X io (dRet f) (.Return (some e) pos) := fun W tk => PS.imp (ps_ret (he W tk)) fun D σ H ⟨Z, O, env, I, h⟩ => by
  refine ⟨Z, O, env, I, ?_⟩
  unfold dRet at h
  cases ef : f env with
  | stuck => rw [ef] at h; exact h
  | exn c e1 => rw [ef] at h; exact EndS.exn h
  | ok x e1 q =>
    rw [ef] at h
    cases x with
    | vw m => exact h.elim
    | own m => exact fun v H' p => h v σ H' ⟨p.own1, Held.refl⟩
def dRetN : Ev → Out := fun env => .ret (.fz .none) env
theorem ss_retN : SS X io dRetN (.Return none pos) := fun W tk => PS.imp ps_retN fun D σ H ⟨Z, O, env, I, h⟩ => h _ σ H ⟨⟨O, [], by rw [Zp_nil]; exact I, .fz .non, List.Pairwise.nil, (fun _ z => nomatch z), Step.refl⟩, Held.refl⟩
/-- if -/
def dIfS (f : Ev → Res) (a b : Ev → Out) : Ev → Out := fun env => match f env with
  | .ok (.own (.fz (.bool t))) e _ => (match t with
    | true => a e
    | false => b e)
  | .ok _ _ _ => .stuck
  | .exn c e => .exn c e
  | .stuck => .stuck
theorem ss_if {p q : List Stmt} {c : Expr} (hc : ST X f c) (ha : SSs X io a p) (hb : SSs X io b q) : SS X io (dIfS f a b) (.If c p q pos) := fun W tk => PS.imp (ps_if (hc W tk) (ha W tk) (hb W tk)) fun D σ H ⟨Z, O, env, I, h⟩ => by
  refine ⟨Z, O, env, I, ?_⟩
  unfold dIfS at h
  split at h
  · rename_i t e1 q ef
    rw [ef]
    refine ⟨t, rfl, fun H' p => ?_⟩
    obtain ⟨O1, I1, st⟩ := p.to
    cases t with
    | true => exact iteT ⟨Z, O1, e1, I1, h.after st Held.refl⟩
    | false => exact iteF ⟨Z, O1, e1, I1, h.after st Held.refl⟩
  · exact h.elim
  · rename_i c e1 ef
    rw [ef]
    exact EndS.exn h
  · exact h.elim
/-- frozen -/
def dFr (f : Ev → Res) : Ev → Res := fun env => match f env with
  | .ok (.own m) e q => (match frz m with
    | some d => .ok (.own (.fz d)) e q
    | none => .stuck)
  | .ok (.vw _) _ _ => .stuck
  | .exn c e => .exn c e
  | .stuck => .stuck
theorem Post.fr {K : PySem.W.Frag} {Z : Addr → Prop} {O : List Addr} {env env1 : Ev} {σ : L2.St} {H H' : Hp} {v : V} {m : M} {d : PyData} {q : Ql} (p : Post K Z O env σ H v H' (.own m) env1 q) (hd : frz m = some d) : Post K Z O env σ H v H' (.own (.fz d)) env1 q := by
  obtain ⟨O', F, I, r, nd, nz, st, qu, pp⟩ := p.ex
  obtain ⟨F', h, hs⟩ := r.own1
  have lo : ∀ a ∈ F, a ∉ O' := fun a ha z => I.nz a z (.inr ha)
  refine ⟨O', [], by rw [Zp_nil]; exact I.weak fun a z => .inl z, ?_, List.Pairwise.nil, (fun _ z => nomatch z), st.weak (fun _ z => nomatch z), qu, fun e => ⟨(pp e).1, (pp e).2.1, rfl⟩⟩
  exact .own (.fz (h.freeze hd (fun a g => ⟨g.1, g.2.1, fun z => nomatch z⟩) fun a ha => ⟨nz a (hs.subset ha), lo a (hs.subset ha), fun z => nomatch z⟩)) .nil
theorem se_fr (he : SE X f e) : SE X (dFr f) e := fun W tk => PE.imp (he W tk) fun σ H Q ⟨Z, O, env, I, h⟩ => by
  refine ⟨Z, O, env, I, ?_⟩
  unfold dFr at h
  cases ef : f env with
  | stuck => rw [ef] at h; exact h
  | exn c e1 => rw [ef] at h; exact h
  | ok x e1 q =>
    rw [ef] at h
    cases x with
    | vw m => exact h.elim
    | own m =>
      cases ed : frz m with
      | none => simp only [ed] at h
      | some d =>
        simp only [ed] at h
        exact fun v H' p => h v H' (p.fr ed)
end
/-! ### names -/
section
variable {K : PySem.W.Frag} {mg : Str → Option Value} {H H' H1 H2 : Hp} {G G' Gv Gv' : Addr → Prop} {O O' O1 O2 F F1 F2 : List Addr} {Z : Addr → Prop} {env env1 env2 : Ev} {σ σ1 σ' : L2.St} {io : Nat → Bool} {W : WX} {D : Ends}
/-- a value comes into a slot -/
theorem SI.put {i : Nat} {v : V} {m : M} (I : SI K (Zp Z F) O1 env1 σ H1) (hi : i < env1.length) (r : RM K H1 (fun a => ¬ Z a ∧ a ∉ O1 ∧ a ∉ F) v m F) (nd : F.Nodup) (nz : ∀ a ∈ F, ¬ Z a) (st : Step O H O1 F H1) : ∃ O2, SI K Z O2 (env1.set i (some m)) (σ.set i (some v)) H1 ∧ Step O H O2 [] H1 := by
  obtain ⟨Fs, s, rfl⟩ := I.sl
  have hl := s.len
  have hi' : i < Fs.length := by omega
  have he : Fs[i]? = some Fs[i] := List.getElem?_eq_getElem hi'
  have sub : ∀ a, a ∈ (Fs.set i F).flatten → a ∈ Fs.flatten ∨ a ∈ F := fun a => mem_flat_set
  have nF : ∀ a ∈ F, a ∉ Fs.flatten := fun a ha z => I.nz a z (.inr ha)
  refine ⟨(Fs.set i F).flatten, ⟨⟨_, Slots.put (s.imp fun a g => ⟨fun z => g.1 (.inl z), fun z => (sub a z).elim g.2 fun z => g.1 (.inr z)⟩) (r.imp fun a g => ⟨g.1, fun z => (sub a z).elim g.2.1 g.2.2⟩), rfl⟩, nodup_flat_set I.nd he nd fun a ha => .inr (nF a ha), fun a ha z => ?_, fun a z => I.zt a (.inl z)⟩, ⟨fun a o n e => ?_⟩⟩
  · rcases sub a ha with q | q
    · exact I.nz a q (.inl z)
    · exact nz a q z
  · obtain ⟨e1, n1, n2⟩ := st.keep a o n e
    exact ⟨e1, fun z => (sub a z).elim n1 n2, fun z => nomatch z⟩
end
section
variable {X : Cx} {io : Nat → Bool} {a b : Ev → Out} {f g h : Ev → Res} {s : Stmt} {ss : List Stmt} {e : Expr} {pos : Pos}
def put1 (i : Nat) (m : M) (e : Ev) : Out := if i < e.length then .nx (e.set i (some m)) else .stuck
def dSet (i : Nat) (f : Ev → Res) : Ev → Out := fun env => match f env with
  | .ok (.own m) e _ => put1 i m e
  | .ok (.vw _) _ _ => .stuck
  | .exn c e => .exn c e
  | .stuck => .stuck
theorem ss_set {i : Nat} {x : Str} {pos' : Pos} (hN : X.N.Nodup) (hi : X.N[i]? = some x) (hx : Loc X.env.scope x) (he : SE X f e) (hio : io i = false := by rfl) (hs : swapsWith e (some (.Name x pos')) pos.line X.env = pure false := by rfl) (hf : X.fn x = true ∨ X.env.scope.names.lookup x = some .local := by first | exact .inl rfl | exact .inr rfl | assumption) :
    SS X io (dSet i f) (.Assign [.Name x pos'] e pos) := fun W tk => PS.imp (ps_set hN hi hx (he W tk) hs hf) fun D σ H ⟨Z, O, env, I, h⟩ => by
  refine ⟨Z, O, env, I, ?_⟩
  unfold dSet at h
  cases ef : f env with
  | stuck => rw [ef] at h; exact h
  | exn c e1 => rw [ef] at h; exact EndS.exn h
  | ok y e1 q =>
    rw [ef] at h
    cases y with
    | vw m => exact h.elim
    | own m =>
      intro v H' p
      simp only [put1] at h
      split at h
      · rename_i hl
        obtain ⟨O', F, I', r, nd, nz, st⟩ := p.own1
        obtain ⟨O2, I2, st2⟩ := I'.put hl r nd nz st
        exact h _ _ ⟨⟨O2, I2, st2⟩, Held.set hio⟩
      · exact h.elim
/-- two names at once -/
def dPar (i j : Nat) (f g : Ev → Res) : Ev → Out := fun env => match evs [f, g] env with
  | .ok [.own m, .own n] e _ => if i < e.length ∧ j < e.length then .nx ((e.set i (some m)).set j (some n)) else .stuck
  | .ok _ _ _ => .stuck
  | .exn c e => .exn c e
  | .stuck => .stuck
theorem RVs.two {K : PySem.W.Frag} {H : Hp} {G Gv : Addr → Prop} {vs : List V} {m n : M} {F : List Addr} (r : RVs K H G Gv vs [.own m, .own n] F) : ∃ v w F1 F2, vs = [v, w] ∧ F = F1 ++ F2 ∧ RM K H G v m F1 ∧ RM K H G w n F2 := by
  cases r with
  | own h r =>
    cases r with
    | own h' r => cases r; exact ⟨_, _, _, _, rfl, by rw [List.append_nil], h, h'⟩
theorem RVs.three {K : PySem.W.Frag} {H : Hp} {G Gv : Addr → Prop} {vs : List V} {m n l : M} {F : List Addr} (r : RVs K H G Gv vs [.own m, .own n, .own l] F) : ∃ v w u F1 F2 F3, vs = [v, w, u] ∧ F = F1 ++ (F2 ++ F3) ∧ RM K H G v m F1 ∧ RM K H G w n F2 ∧ RM K H G u l F3 := by
  cases r with
  | own h r =>
    obtain ⟨w, u, F2, F3, rfl, rfl, h2, h3⟩ := r.two
    exact ⟨_, w, u, _, F2, F3, rfl, rfl, h, h2, h3⟩
/-- the first of two footprints goes into a slot, the second stays out -/
theorem SI.put2 {K : PySem.W.Frag} {Z : Addr → Prop} {O O1 F1 F2 : List Addr} {env1 : Ev} {σ : L2.St} {H H1 : Hp} {i : Nat} {v : V} {m : M} (I : SI K (Zp Z (F1 ++ F2)) O1 env1 σ H1) (hi : i < env1.length) (r : RM K H1 (fun a => ¬ Z a ∧ a ∉ O1 ∧ a ∉ F1 ++ F2) v m F1) (nd : (F1 ++ F2).Nodup) (nz : ∀ a ∈ F1 ++ F2, ¬ Z a) (st : Step O H O1 (F1 ++ F2) H1) :
    ∃ O2, SI K (Zp Z F2) O2 (env1.set i (some m)) (σ.set i (some v)) H1 ∧ Step O H O2 F2 H1 ∧ (∀ a, (¬ Z a ∧ a ∉ O1 ∧ a ∉ F1 ++ F2) → (¬ Z a ∧ a ∉ O2 ∧ a ∉ F2)) := by
  obtain ⟨n1, n2, n3⟩ := List.nodup_append.mp nd
  have I' : SI K (Zp (Zp Z F2) F1) O1 env1 σ H1 := I.weak fun a z => by
    rcases z with (z | z) | z
    · exact .inl z
    · exact .inr (List.mem_append_right _ z)
    · exact .inr (List.mem_append_left _ z)
  have zt : ∀ a, Zp Z F2 a → ∃ o, H1 a = some o := fun a z => I'.zt a (.inl z)
  obtain ⟨Fs, s, rfl⟩ := I'.sl
  have hl := s.len
  have hi' : i < Fs.length := by omega
  have he : Fs[i]? = some Fs[i] := List.getElem?_eq_getElem hi'
  have sub : ∀ a, a ∈ (Fs.set i F1).flatten → a ∈ Fs.flatten ∨ a ∈ F1 := fun a => mem_flat_set
  have nF : ∀ a ∈ F1, a ∉ Fs.flatten := fun a ha z => I'.nz a z (.inr ha)
  refine ⟨(Fs.set i F1).flatten, ⟨⟨_, Slots.put (s.imp fun a g => ⟨fun z => g.1 (.inl z), fun z => (sub a z).elim g.2 fun z => g.1 (.inr z)⟩) (r.imp fun a g => ⟨fun z => z.elim g.1 fun z => g.2.2 (List.mem_append_right _ z), fun z => (sub a z).elim g.2.1 fun z => g.2.2 (List.mem_append_left _ z)⟩), rfl⟩, nodup_flat_set I'.nd he n1 fun a ha => .inr (nF a ha), fun a ha z => ?_, zt⟩, ⟨fun a o n e => ?_⟩, fun a g => ⟨g.1, fun z => (sub a z).elim g.2.1 fun z => g.2.2 (List.mem_append_left _ z), fun z => g.2.2 (List.mem_append_right _ z)⟩⟩
  · rcases sub a ha with q | q
    · exact I'.nz a q (.inl z)
    · rcases z with z | z
      · exact nz a (List.mem_append_left _ q) z
      · exact n3 a q a z rfl
  · obtain ⟨e1, m1, m2⟩ := st.keep a o n e
    exact ⟨e1, fun z => (sub a z).elim m1 fun z => m2 (List.mem_append_left _ z), fun z => m2 (List.mem_append_right _ z)⟩
theorem ss_par {i j : Nat} {x y : Str} {c d : Expr} {px py pt : Pos} {kt k2 pt2} (hc : X.calm = true) (hN : X.N.Nodup) (hi : X.N[i]? = some x) (hj : X.N[j]? = some y) (hij : i ≠ j)
    (hx : X.env.scope.names.lookup x = some .local) (hy : X.env.scope.names.lookup y = some .local) (ha : SA X (evs [f, g]) [c, d])
    (hw : swappedStores [.Tuple [.Name x px, .Name y py] kt pt] (.Tuple [c, d] k2 pt2) X.env = pure (some [x, y])) (hio : io i = false := by rfl) (hjo : io j = false := by rfl)
    (hs : swapsWithSole [.Tuple [.Name x px, .Name y py] kt pt] (.Tuple [c, d] k2 pt2) pos.line X.env = pure false := by rfl) :
    SS X io (dPar i j f g) (.Assign [.Tuple [.Name x px, .Name y py] kt pt] (.Tuple [c, d] k2 pt2) pos) := fun W tk => PS.imp (ps_par hc hN hi hj hij hx hy (ha W tk) hw hs) fun D σ H ⟨Z, O, env, I, h⟩ => by
  refine ⟨Z, O, env, I, ?_⟩
  unfold dPar at h
  split at h
  · rename_i m n e1 q ef
    rw [ef]
    split at h
    · rename_i hl
      intro vs H' p
      obtain ⟨O', F, I', r, nd, nz, st, _⟩ := p.ex
      obtain ⟨v, w, F1, F2, rfl, rfl, r1, r2⟩ := r.two
      obtain ⟨O2, I2, st2, gg⟩ := I'.put2 hl.1 r1 nd nz st
      obtain ⟨O3, I3, st3⟩ := I2.put (i := j) (by rw [List.length_set]; exact hl.2) (r2.imp gg) (List.nodup_append.mp nd).2.1 (fun a ha => nz a (List.mem_append_right _ ha)) st2
      exact ⟨v, w, rfl, h _ _ ⟨⟨O3, I3, st3⟩, (Held.set hio).trans (Held.set hjo)⟩⟩
    · exact h.elim
  · exact h.elim
  · rename_i c e1 ef
    rw [ef]
    exact EndS.exn h
  · exact h.elim
def dPar3 (i j l : Nat) (f g k : Ev → Res) : Ev → Out := fun env => match evs [f, g, k] env with
  | .ok [.own m, .own n, .own o] e _ => if i < e.length ∧ j < e.length ∧ l < e.length then .nx (((e.set i (some m)).set j (some n)).set l (some o)) else .stuck
  | .ok _ _ _ => .stuck
  | .exn c e => .exn c e
  | .stuck => .stuck
theorem ss_par3 {i j l : Nat} {x y z : Str} {c d e : Expr} {px py pz pt : Pos} {kt k2 pt2} (hc : X.calm = true) (hN : X.N.Nodup) (hi : X.N[i]? = some x) (hj : X.N[j]? = some y) (hl : X.N[l]? = some z) (hij : i ≠ j) (hil : i ≠ l) (hjl : j ≠ l)
    (hx : X.env.scope.names.lookup x = some .local) (hy : X.env.scope.names.lookup y = some .local) (hz : X.env.scope.names.lookup z = some .local) (ha : SA X (evs [f, g, h]) [c, d, e])
    (hw : swappedStores [.Tuple [.Name x px, .Name y py, .Name z pz] kt pt] (.Tuple [c, d, e] k2 pt2) X.env = pure (some [x, y, z])) (hio : io i = false := by rfl) (hjo : io j = false := by rfl) (hlo : io l = false := by rfl)
    (hs : swapsWithSole [.Tuple [.Name x px, .Name y py, .Name z pz] kt pt] (.Tuple [c, d, e] k2 pt2) pos.line X.env = pure false := by rfl) :
    SS X io (dPar3 i j l f g h) (.Assign [.Tuple [.Name x px, .Name y py, .Name z pz] kt pt] (.Tuple [c, d, e] k2 pt2) pos) := fun W tk => PS.imp (ps_par3 hc hN hi hj hl hij hil hjl hx hy hz (ha W tk) hw hs) fun D σ H ⟨Z, O, env, I, h⟩ => by
  refine ⟨Z, O, env, I, ?_⟩
  unfold dPar3 at h
  split at h
  · rename_i m n o e1 q ef
    rw [ef]
    split at h
    · rename_i hl
      intro vs H' p
      obtain ⟨O', F, I', r, nd, nz, st, _⟩ := p.ex
      obtain ⟨v, w, u, F1, F2, F3, rfl, rfl, r1, r2, r3⟩ := r.three
      obtain ⟨O2, I2, st2, gg⟩ := I'.put2 hl.1 r1 nd nz st
      have nd2 := (List.nodup_append.mp nd).2.1
      have nz2 : ∀ a ∈ F2 ++ F3, ¬ Z a := fun a ha => nz a (List.mem_append_right _ ha)
      obtain ⟨O3, I3, st3, gg3⟩ := I2.put2 (i := j) (by rw [List.length_set]; exact hl.2.1) (r2.imp gg) nd2 nz2 st2
      obtain ⟨O4, I4, st4⟩ := I3.put (i := l) (by rw [List.length_set, List.length_set]; exact hl.2.2) (r3.imp fun a z => gg3 a (gg a z)) (List.nodup_append.mp nd2).2.1 (fun a ha => nz2 a (List.mem_append_right _ ha)) st3
      exact ⟨v, w, u, rfl, h _ _ ⟨⟨O4, I4, st4⟩, ((Held.set hio).trans (Held.set hjo)).trans (Held.set hlo)⟩⟩
    · exact h.elim
  · exact h.elim
  · rename_i c e1 ef
    rw [ef]
    exact EndS.exn h
  · exact h.elim
end
end Q

set_option Elab.async false
set_option linter.all false
set_option maxRecDepth 100000
set_option maxHeartbeats 4000000
/-! Targets; what is written into a list that a name owns. -/
namespace Q
open PySem PySem.Spec PyProof.Rows L2

section
variable {K : PySem.W.Frag} {mg : Str → Option Value} {H H' H1 H2 : Hp} {G G' Gv Gv' : Addr → Prop} {O O' O1 O2 F F' F1 F2 : List Addr} {Z : Addr → Prop} {env env1 env2 : Ev} {σ σ1 σ' : L2.St} {io : Nat → Bool} {W : WX} {D : Ends}
theorem RMs.setAt : ∀ {vs : List V} {ms : List M} {F : List Addr} {j : Nat} {v : V} {m : M}, RMs K H G vs ms F → RM K H G v m F' → ∃ F2, RMs K H G (vs.set j v) (ms.set j m) F2 ∧ (∀ b ∈ F2, b ∈ F ∨ b ∈ F') ∧ ((F ++ F').Nodup → F2.Nodup)
  | _, _, _, _, _, _, .nil, r => ⟨[], .nil, (fun _ z => nomatch z), fun _ => List.Pairwise.nil⟩
  | _, _, _, 0, _, _, .cons (F := Fa) (F' := Fb) h t, r => ⟨F' ++ Fb, .cons r t, fun b hb => (List.mem_append.mp hb).elim .inr fun z => .inl (List.mem_append_right _ z), fun nd => by
      obtain ⟨n1, n2, n3⟩ := List.nodup_append.mp nd
      exact List.nodup_append.mpr ⟨n2, (List.nodup_append.mp n1).2.1, fun a ha b hb e => n3 b (List.mem_append_right _ hb) a ha e.symm⟩⟩
  | _, _, _, j + 1, _, _, .cons (F := Fa) (F' := Fb) h t, r => by
    obtain ⟨F2, r2, s2, d2⟩ := RMs.setAt (j := j) t r
    refine ⟨Fa ++ F2, .cons h r2, fun b hb => ?_, fun nd => ?_⟩
    · rcases List.mem_append.mp hb with z | z
      · exact .inl (List.mem_append_left _ z)
      · exact (s2 b z).imp (fun z => List.mem_append_right _ z) id
    · rw [List.append_assoc] at nd
      obtain ⟨n1, n2, n3⟩ := List.nodup_append.mp nd
      refine List.nodup_append.mpr ⟨n1, d2 n2, fun a ha b hb e => n3 a ha b ?_ e⟩
      exact (s2 b hb).elim (fun z => List.mem_append_left _ z) fun z => List.mem_append_right _ z
theorem RMs.app : ∀ {vs : List V} {ms : List M} {F : List Addr} {v : V} {m : M}, RMs K H G vs ms F → RM K H G v m F' → RMs K H G (vs ++ [v]) (ms ++ [m]) (F ++ F')
  | _, _, _, _, _, .nil, r => by simpa using RMs.cons r .nil
  | _, _, _, _, _, .cons h t, r => by rw [List.append_assoc]; exact .cons h (RMs.app t r)
/-- one of the trees is changed in its place -/
theorem RMs.at : ∀ {vs : List V} {ms : List M} {F : List Addr} {i : Nat} {m : M}, RMs K H G vs ms F → ms[i]? = some m → ∃ v Fa Fi Fb, vs[i]? = some v ∧ F = Fa ++ (Fi ++ Fb) ∧ RM K H G v m Fi ∧
    ∀ {H' : Hp} {G' : Addr → Prop} {m' : M} {Fi' : List Addr}, (∀ b o, b ∉ Fi → H b = some o → H' b = some o) → F.Nodup → (∀ b, G b → G' b) → (∀ b ∈ Fi, ¬ G b) → OM H Fi → RM K H' G' v m' Fi' → RMs K H' G' vs (ms.set i m') (Fa ++ (Fi' ++ Fb))
  | _, _, _, 0, _, .cons (F := Fa) (F' := Fb) h t, e => by
    simp at e; subst e
    refine ⟨_, [], Fa, Fb, rfl, rfl, h, fun {H' G' m' Fi'} fr nd gg ng om r => ?_⟩
    rw [List.nil_append]
    refine .cons r (t.step om (fun a g ha => ng a ha g) (fun a ha hb => ?_) fr fun a _ g _ => gg a g)
    exact (List.nodup_append.mp nd).2.2 a hb a ha rfl
  | _, _, _, i + 1, _, .cons (F := F0) (F' := Fr) h t, e => by
    obtain ⟨v, Fa, Fi, Fb, e1, e2, r, k⟩ := RMs.at (i := i) t (by simpa using e)
    subst e2
    refine ⟨v, F0 ++ Fa, Fi, Fb, by simpa using e1, by rw [List.append_assoc], r, fun {H' G' m' Fi'} fr nd gg ng om r' => ?_⟩
    rw [List.append_assoc]
    obtain ⟨n1, n2, n3⟩ := List.nodup_append.mp nd
    refine .cons (h.step om (fun a g ha => ng a ha g) (fun a ha hb => n3 a ha a ?_ rfl) fr fun a _ g _ => gg a g) (k fr n2 gg ng om r')
    exact List.mem_append_right _ (List.mem_append_left _ hb)
/-- the way down a path -/
inductive Way (K : PySem.W.Frag) (H : Hp) : V → List Nat → Addr → Prop
  | nil {a : Addr} : Way K H (.ref a) [] a
  | lst {b a : Addr} {xs : List V} {i : Nat} {is : List Nat} {w : V} : H b = some (.lst xs) → xs[i]? = some w → Way K H w is a → Way K H (.ref b) (i :: is) a
def M.wr : List Nat → (List M → Option (List M)) → M → Option M
  | [], f, .lst ms => (f ms).map .lst
  | i :: is, f, .lst ms => match ms[i]? with
    | some m => (M.wr is f m).map fun m' => .lst (ms.set i m')
    | none => none
  | _, _, _ => none
theorem RM.wr : ∀ {p : List Nat} {f : List M → Option (List M)} {m m' : M} {v : V} {F : List Addr}, RM K H G v m F → F.Nodup → (∀ b ∈ F, ¬ G b) → M.wr p f m = some m' →
    ∃ a xs ms Fr ms', Way K H v p a ∧ H a = some (.lst xs) ∧ RMs K H G xs ms Fr ∧ f ms = some ms' ∧ a ∈ F ∧ Fr.Nodup ∧ (∀ b ∈ Fr, b ∈ F ∧ b ≠ a) ∧
    ∀ {xs' : List V} {Fr' : List Addr} {G' : Addr → Prop}, RMs K (upd H a (.lst xs')) G' xs' ms' Fr' → (∀ b, G b → G' b) → Fr'.Nodup → a ∉ Fr' → (∀ b ∈ Fr', b ∈ Fr ∨ b ∉ F) → ∃ F', RM K (upd H a (.lst xs')) G' v m' F' ∧ F'.Nodup ∧ ∀ b ∈ F', b ∈ F ∨ b ∈ Fr'
  | [], f, m, m', v, F, r, nd, ng, e => by
    cases r with
    | lst h rs =>
      rename_i a xs ms F0
      unfold M.wr at e
      obtain ⟨ms', e1, rfl⟩ := Option.map_eq_some_iff.mp e
      obtain ⟨n1, n2⟩ := List.nodup_cons.mp nd
      refine ⟨a, xs, ms, F0, ms', .nil, h, rs, e1, List.mem_cons_self, n2, fun b hb => ⟨List.mem_cons_of_mem _ hb, fun z => n1 (z ▸ hb)⟩, fun {xs' Fr' G'} r' gg nd' na' sub => ⟨a :: Fr', .lst upd_same r', List.nodup_cons.mpr ⟨na', nd'⟩, fun b hb => ?_⟩⟩
      rcases List.mem_cons.mp hb with z | z
      · exact .inl (by rw [z]; exact List.mem_cons_self)
      · exact .inr z
    | fz h => unfold M.wr at e; cases e
    | tup h rs => unfold M.wr at e; cases e
    | dK h rs => unfold M.wr at e; cases e
    | dT h rs => unfold M.wr at e; cases e
  | i :: is, f, m, m', v, F, r, nd, ng, e => by
    cases r with
    | lst h rs =>
      rename_i a0 xs0 ms0 F0
      unfold M.wr at e
      cases ei : ms0[i]? with
      | none => simp only [ei] at e; cases e
      | some mi =>
        simp only [ei] at e
        obtain ⟨mi', e1, rfl⟩ := Option.map_eq_some_iff.mp e
        obtain ⟨n1, n2⟩ := List.nodup_cons.mp nd
        obtain ⟨w, Fa, Fi, Fb, ew, rfl, rw', k⟩ := rs.at ei
        have ndi : Fi.Nodup := (List.nodup_append.mp (List.nodup_append.mp n2).2.1).1
        have inF : ∀ b ∈ Fi, b ∈ a0 :: (Fa ++ (Fi ++ Fb)) := fun b hb => List.mem_cons_of_mem _ (List.mem_append_right _ (List.mem_append_left _ hb))
        obtain ⟨a, xs, ms, Fr, ms', wy, ha, rms, ef, af, nr, sr, go⟩ := RM.wr rw' ndi (fun b hb => ng b (inF b hb)) e1
        refine ⟨a, xs, ms, Fr, ms', .lst h ew wy, ha, rms, ef, inF a af, nr, fun b hb => ⟨inF b (sr b hb).1, (sr b hb).2⟩, fun {xs' Fr' G'} r' gg nd' na' sub => ?_⟩
        obtain ⟨F', rF, nF, sF⟩ := go r' gg nd' na' fun b hb => (sub b hb).imp id fun z q => z (inF b q)
        have ne : a0 ≠ a := fun z => n1 (by rw [z]; exact List.mem_append_right _ (List.mem_append_left _ af))
        have om : OM H Fi := OM.of rw'.owd
        have fr : ∀ b o, b ∉ Fi → H b = some o → upd H a (.lst xs') b = some o := fun b o n e => by
          rw [upd_ne (fun z => n (by rw [z]; exact af))]; exact e
        refine ⟨a0 :: (Fa ++ (F' ++ Fb)), .lst (by rw [upd_ne ne]; exact h) (k fr n2 gg (fun b hb => ng b (inF b hb)) om rF), ?_, fun b hb => ?_⟩
        · obtain ⟨q1, q2, q3⟩ := List.nodup_append.mp n2
          obtain ⟨q4, q5, q6⟩ := List.nodup_append.mp q2
          have out : ∀ b ∈ F', b ∈ Fi ∨ b ∉ a0 :: (Fa ++ (Fi ++ Fb)) := fun b hb => (sF b hb).elim .inl fun z => (sub b z).elim (fun z => .inl (sr b z).1) .inr
          refine List.nodup_cons.mpr ⟨fun z => ?_, List.nodup_append.mpr ⟨q1, List.nodup_append.mpr ⟨nF, q5, fun x hx y hy e => ?_⟩, fun x hx y hy e => ?_⟩⟩
          · rcases List.mem_append.mp z with z | z
            · exact n1 (List.mem_append_left _ z)
            · rcases List.mem_append.mp z with z | z
              · rcases out _ z with q | q
                · exact n1 (List.mem_append_right _ (List.mem_append_left _ q))
                · exact q List.mem_cons_self
              · exact n1 (List.mem_append_right _ (List.mem_append_right _ z))
          · subst e
            rcases out _ hx with q | q
            · exact q6 x q x hy rfl
            · exact q (List.mem_cons_of_mem _ (List.mem_append_right _ (List.mem_append_right _ hy)))
          · subst e
            rcases List.mem_append.mp hy with z | z
            · rcases out _ z with q | q
              · exact q3 x hx x (List.mem_append_left _ q) rfl
              · exact q (List.mem_cons_of_mem _ (List.mem_append_left _ hx))
            · exact q3 x hx x (List.mem_append_right _ z) rfl
        · rcases List.mem_cons.mp hb with z | z
          · exact .inl (by rw [z]; exact List.mem_cons_self)
          · rcases List.mem_append.mp z with z | z
            · exact .inl (List.mem_cons_of_mem _ (List.mem_append_left _ z))
            · rcases List.mem_append.mp z with z | z
              · exact (sF b z).imp (inF b) id
              · exact .inl (List.mem_cons_of_mem _ (List.mem_append_right _ (List.mem_append_right _ z)))
    | fz h => unfold M.wr at e; cases e
    | tup h rs => unfold M.wr at e; cases e
    | dK h rs => unfold M.wr at e; cases e
    | dT h rs => unfold M.wr at e; cases e
theorem Slots.stepL : ∀ {env : Ev} {σ : L2.St} {Fs : List (List Addr)} {i : Nat} {m : M} {v : V} {F' : List Addr}, Slots K H G env σ Fs → OM H O → (∀ b, G b → b ∉ O) → (∀ j F, j ≠ i → Fs[j]? = some F → ∀ b ∈ F, b ∉ O) → (∀ b o, b ∉ O → H b = some o → H' b = some o) → (∀ b, G b → G' b) → σ[i]? = some (some v) → RM K H' G' v m F' → Slots K H' G' (env.set i (some m)) σ (Fs.set i F')
  | _, _, _, _, _, _, _, .nil, _, _, _, _, _, _, _ => .nil
  | _, _, _, 0, _, _, _, .non r, om, go, ff, fr, gg, e, h => by simp at e; subst e; exact .som h (Slots.all r om go (fun j F ej b hb => ff (j + 1) F (by omega) (by simpa using ej) b hb) fr gg)
  | _, _, _, 0, _, _, _, .som _ r, om, go, ff, fr, gg, e, h => by simp at e; subst e; exact .som h (Slots.all r om go (fun j F ej b hb => ff (j + 1) F (by omega) (by simpa using ej) b hb) fr gg)
  | _, _, _, i + 1, _, _, _, .non r, om, go, ff, fr, gg, e, h => .non (Slots.stepL r om go (fun j F n ej b hb => ff (j + 1) F (by omega) (by simpa using ej) b hb) fr gg (by simpa using e) h)
  | _, _, _, i + 1, _, _, _, .som h0 r, om, go, ff, fr, gg, e, h => .som (h0.step om (fun a g => go a g) (fun a ha => ff 0 _ (by omega) (by simp) a ha) fr fun a _ g _ => gg a g) (Slots.stepL r om go (fun j F n ej b hb => ff (j + 1) F (by omega) (by simpa using ej) b hb) fr gg (by simpa using e) h)
where
  Slots.all : ∀ {env : Ev} {σ : L2.St} {Fs : List (List Addr)}, Slots K H G env σ Fs → OM H O → (∀ b, G b → b ∉ O) → (∀ (j : Nat) F, Fs[j]? = some F → ∀ b ∈ F, b ∉ O) → (∀ b o, b ∉ O → H b = some o → H' b = some o) → (∀ b, G b → G' b) → Slots K H' G' env σ Fs
  | _, _, _, .nil, _, _, _, _, _ => .nil
  | _, _, _, .non r, om, go, ff, fr, gg => .non (Slots.all r om go (fun j F ej => ff (j + 1) F (by simpa using ej)) fr gg)
  | _, _, _, .som h0 r, om, go, ff, fr, gg => .som (h0.step om (fun a g => go a g) (fun a ha => ff 0 _ (by simp) a ha) fr fun a _ g _ => gg a g) (Slots.all r om go (fun j F ej => ff (j + 1) F (by simpa using ej)) fr gg)
theorem flat_apart : ∀ {Fs : List (List Addr)} {i j : Nat} {Fi Fj : List Addr}, Fs.flatten.Nodup → Fs[i]? = some Fi → Fs[j]? = some Fj → i ≠ j → ∀ b ∈ Fi, b ∉ Fj
  | [], _, _, _, _, _, e, _, _ => by simp at e
  | x :: r, 0, 0, _, _, _, _, _, h => absurd rfl h
  | x :: r, 0, j + 1, Fi, Fj, nd, e1, e2, _ => fun b hb hc => by
    simp at e1; subst e1
    rw [List.flatten_cons] at nd
    exact (List.nodup_append.mp nd).2.2 b hb b (mem_flat_at (i := j) (by simpa using e2) hc) rfl
  | x :: r, i + 1, 0, Fi, Fj, nd, e1, e2, _ => fun b hb hc => by
    simp at e2; subst e2
    rw [List.flatten_cons] at nd
    exact (List.nodup_append.mp nd).2.2 b hc b (mem_flat_at (i := i) (by simpa using e1) hb) rfl
  | x :: r, i + 1, j + 1, Fi, Fj, nd, e1, e2, h => by
    rw [List.flatten_cons] at nd
    exact flat_apart (List.nodup_append.mp nd).2.1 (i := i) (j := j) (by simpa using e1) (by simpa using e2) (by omega)
/-- a list of a slot's tree is written; F: what comes in from outside -/
theorem SI.wr {s : Nat} {p : List Nat} {f : List M → Option (List M)} {m m' : M} (I : SI K (Zp Z F) O env σ H) (e : env[s]? = some (some m)) (ew : M.wr p f m = some m') :
    ∃ v a xs ms Fr ms', σ[s]? = some (some v) ∧ Way K H v p a ∧ H a = some (.lst xs) ∧ a ∈ O ∧ RMs K H (fun b => ¬ Zp Z F b ∧ b ∉ O) xs ms Fr ∧ f ms = some ms' ∧ (∀ b ∈ Fr, b ∈ O) ∧ Fr.Nodup ∧
    ∀ {xs' : List V} {Fr' : List Addr} {O0 : List Addr} {H0 : Hp}, RMs K H (fun b => ¬ Z b ∧ b ∉ O ∧ b ∉ F) xs' ms' Fr' → Fr'.Nodup → (∀ b ∈ Fr', b ∈ Fr ∨ b ∈ F) → (∀ b ∈ F, ¬ Z b) → Step O0 H0 O F H →
      ∃ O2, SI K Z O2 (env.set s (some m')) σ (upd H a (.lst xs')) ∧ Step O0 H0 O2 [] (upd H a (.lst xs')) := by
  obtain ⟨Fs, sl, rfl⟩ := I.sl
  obtain ⟨v, Fv, h1, h2, h3⟩ := sl.get e
  have ndv : Fv.Nodup := by
    have key : ∀ {Fs : List (List Addr)} {i : Nat}, Fs.flatten.Nodup → Fs[i]? = some Fv → Fv.Nodup := by
      intro Fs
      induction Fs with
      | nil => intro i _ h; simp at h
      | cons y r ih =>
        intro i nd h
        rw [List.flatten_cons] at nd
        cases i with
        | zero => simp at h; subst h; exact (List.nodup_append.mp nd).1
        | succ i => exact ih (List.nodup_append.mp nd).2.1 (by simpa using h)
    exact key I.nd h2
  have inO : ∀ b ∈ Fv, b ∈ Fs.flatten := fun b hb => mem_flat_at h2 hb
  obtain ⟨a, xs, ms, Fr, ms', wy, ha, rms, ef, af, nr, sr, go⟩ := RM.wr h3 ndv (fun b hb g => g.2 (inO b hb)) ew
  refine ⟨v, a, xs, ms, Fr, ms', h1, wy, ha, inO a af, rms, ef, fun b hb => inO b (sr b hb).1, nr, fun {xs' Fr' O0 H0} r' nd' sub nz st => ?_⟩
  have fr : ∀ b o, b ∉ [a] → H b = some o → upd H a (.lst xs') b = some o := fun b o n e => by
    rw [upd_ne (fun z => n (by rw [z]; exact List.mem_cons_self))]; exact e
  have nF : ∀ b ∈ F, b ∉ Fs.flatten := fun b hb z => I.nz b z (.inr hb)
  have aFr' : a ∉ Fr' := fun z => (sub a z).elim (fun z => (sr a z).2 rfl) fun z => nF a z (inO a af)
  have om : OM H [a] := fun b hb => I.om b (by rw [List.mem_singleton.mp hb]; exact inO a af)
  -- the list's new items, behind the write
  have rn : RMs K (upd H a (.lst xs')) (fun b => ¬ Z b ∧ (b ∉ Fs.flatten ∨ b ∈ Fv ∧ False) ∧ b ∉ F) xs' ms' Fr' := r'.step om (fun b g hb => g.2.1 (by rw [List.mem_singleton.mp hb]; exact inO a af)) (fun b hb hc => aFr' (by rw [← List.mem_singleton.mp hc]; exact hb)) fr fun b o g _ => ⟨g.1, .inl g.2.1, g.2.2⟩
  obtain ⟨F', rF, ndF, sF⟩ := go rn (fun b g => ⟨fun z => g.1 (.inl z), .inl g.2, fun z => g.1 (.inr z)⟩) nd' aFr' fun b hb => (sub b hb).imp id fun z q => nF b z (inO b q)
  have sF2 : ∀ b ∈ F', b ∈ Fv ∨ b ∈ F := fun b hb => (sF b hb).elim .inl fun z => (sub b z).elim (fun z => .inl (sr b z).1) .inr
  have all : ∀ b, b ∈ (Fs.set s F').flatten → b ∈ Fs.flatten ∨ b ∈ F := fun b hb => (mem_flat_set hb).elim .inl fun z => (sF2 b z).imp (inO b) id
  refine ⟨(Fs.set s F').flatten, ⟨⟨_, Slots.stepL (O := [a]) (G' := fun b => ¬ Z b ∧ b ∉ (Fs.set s F').flatten) sl om (fun b g hb => g.2 (by rw [List.mem_singleton.mp hb]; exact inO a af)) (fun j Fj hj ej b hb hc => ?_) fr (fun b g => ⟨fun z => g.1 (.inl z), fun z => (all b z).elim g.2 fun z => g.1 (.inr z)⟩) h1 (rF.imp fun b g => ⟨g.1, fun z => ?_⟩), rfl⟩, nodup_flat_set I.nd h2 ndF fun b hb => (sF2 b hb).imp id (nF b), fun b hb z => ?_, fun b z => ?_⟩, ⟨fun b o n e => ?_⟩⟩
  · rw [List.mem_singleton.mp hc] at hb
    exact flat_apart I.nd h2 ej (Ne.symm hj) a af hb
  · rcases all b z with q | q
    · exact g.2.1.elim (fun w => w q) fun w => w.2
    · exact g.2.2 q
  · exact (all b hb).elim (fun q => I.nz b q (.inl z)) fun q => nz b q z
  · by_cases q : b = a
    · exact ⟨_, by rw [q]; exact upd_same⟩
    · obtain ⟨o, e⟩ := I.zt b (.inl z)
      exact ⟨o, by rw [upd_ne q]; exact e⟩
  · obtain ⟨e1, n1, n2⟩ := st.keep b o n e
    have q : b ≠ a := fun z => n1 (by rw [z]; exact inO a af)
    exact ⟨by rw [upd_ne q]; exact e1, fun z => (all b z).elim n1 n2, fun z => nomatch z⟩
end
end Q

set_option Elab.async false
set_option linter.all false
set_option maxRecDepth 100000
set_option maxHeartbeats 4000000
/-! What is walked; for; while. -/
namespace Q
open PySem PySem.Spec PyProof.Rows L2

/-! ### targets, for frozen data -/
abbrev Tg := PyData → Ev → Option Ev
def TUG (K : PySem.W.Frag) (io : Nat → Bool) (ql : Bool) (p : Tg) : TG := fun v σ H Q => ∃ Z O env d, SI K Z O env σ H ∧ RF K H (fun a => ¬ Z a ∧ a ∉ O) v d ∧
  match p d env with
  | some e => ∀ σ' H', PostS K Z O io σ H e σ' H' → (ql = true → Quiet H H') → Q σ' H'
  | none => False
def SG (X : Cx) (io : Nat → Bool) (ql : Bool) (p : Tg) (e : Expr) : Prop := PG X e (TUG X.K io ql p)
def goT : List Tg → List PyData → Ev → Option Ev
  | [], [], e => some e
  | p :: ps, d :: ds, e => (p d e).bind fun e' => goT ps ds e'
  | _, _, _ => none
def TUGs (K : PySem.W.Frag) (io : Nat → Bool) (ql : Bool) (ps : List Tg) : TGs := fun vs σ H Q => ∃ Z O env ds, SI K Z O env σ H ∧ RFs K H (fun a => ¬ Z a ∧ a ∉ O) vs ds ∧
  match goT ps ds env with
  | some e => ∀ σ' H', PostS K Z O io σ H e σ' H' → (ql = true → Quiet H H') → Q σ' H'
  | none => False
def SGs (X : Cx) (io : Nat → Bool) (ql : Bool) (ps : List Tg) (es : List Expr) : Prop := PGs X es (TUGs X.K io ql ps)
theorem PG.imp {X : Cx} {e : Expr} {t t' : TG} (h : PG X e t) (i : ∀ v σ H Q, t' v σ H Q → t v σ H Q) : PG X e t' := ⟨fun pins s σ H v u Q I r q => h.run pins s σ H v u Q I r (i v σ H Q q)⟩
theorem PGs.imp {X : Cx} {e : List Expr} {t t' : TGs} (h : PGs X e t) (i : ∀ v σ H Q, t' v σ H Q → t v σ H Q) : PGs X e t' := ⟨fun pins s σ H v u Q I r q => h.run pins s σ H v u Q I r (i v σ H Q q)⟩
def gNm (i : Nat) : Tg := fun d e => if i < e.length then some (e.set i (some (.fz d))) else none
def gTp (ps : List Tg) : Tg := fun d e => match d with
  | .tuple ds => if ds.length = ps.length then goT ps ds e else none
  | _ => none
/-- .. of a list -/
def gLs (ps : List Tg) : Tg := fun d e => match d with
  | .list ds => if ds.length = ps.length then goT ps ds e else none
  | _ => none
theorem RFs.after {K : PySem.W.Frag} {Z : Addr → Prop} {O O2 : List Addr} {env : Ev} {σ : L2.St} {H H' : Hp} {vs : List V} {ds : List PyData} (r : RFs K H (fun a => ¬ Z a ∧ a ∉ O) vs ds) (I : SI K Z O env σ H) (st : Step O H O2 [] H') : RFs K H' (fun a => ¬ Z a ∧ a ∉ O2) vs ds :=
  r.step I.om (fun a g => g.2) (fun a o n e => (st.keep a o n e).1) fun a o g e => ⟨g.1, (st.keep a o g.2 e).2.1⟩
theorem RF.after {K : PySem.W.Frag} {Z : Addr → Prop} {O O2 : List Addr} {env : Ev} {σ : L2.St} {H H' : Hp} {vs : V} {ds : PyData} (r : RF K H (fun a => ¬ Z a ∧ a ∉ O) vs ds) (I : SI K Z O env σ H) (st : Step O H O2 [] H') : RF K H' (fun a => ¬ Z a ∧ a ∉ O2) vs ds :=
  r.step I.om (fun a g => g.2) (fun a o n e => (st.keep a o n e).1) fun a o g e => ⟨g.1, (st.keep a o g.2 e).2.1⟩
section
variable {X : Cx} {io : Nat → Bool} {ql : Bool} {p : Tg} {ps : List Tg} {e : Expr} {es : List Expr} {pos : Pos}
theorem sg_name {i : Nat} {x : Str} (hN : X.N.Nodup) (hi : X.N[i]? = some x) (hx : Loc X.env.scope x) (hio : io i = false := by rfl) (hf : X.fn x = true ∨ X.env.scope.names.lookup x = some .local := by first | exact .inl rfl | exact .inr rfl | assumption) : SG X io ql (gNm i) (.Name x pos) :=
  PG.imp (pg_name hN hi hx hf) fun v σ H Q ⟨Z, O, env, d, I, r, h⟩ => by
    unfold gNm at h
    split at h
    · rename_i e1 he
      split at he
      · rename_i hl
        cases he
        have I0 : SI X.K (Zp Z []) O env σ H := by rw [Zp_nil]; exact I
        obtain ⟨O2, I2, st2⟩ := I0.put (O := O) (H := H) hl (.fz (r.imp fun a g => ⟨g.1, g.2, fun z => nomatch z⟩)) List.Pairwise.nil (fun _ z => nomatch z) Step.refl
        exact h _ _ ⟨⟨O2, I2, st2⟩, Held.set hio⟩ fun _ _ _ e => e
      · cases he
    · exact h.elim
theorem sgs_nil : SGs X io ql [] [] := PGs.imp pgs_nil fun vs σ H Q ⟨Z, O, env, ds, I, r, h⟩ => by
  cases r with
  | nil =>
    refine ⟨rfl, ?_⟩
    exact h σ H ⟨⟨O, I, Step.refl⟩, Held.refl⟩ fun _ _ _ e => e
  | cons _ _ => exact h.elim
theorem sgs_cons (h1 : SG X io ql p e) (h2 : SGs X io ql ps es) (hs : (assignEach (e :: es) X.env).map (·.2) = assign e X.env :: (assignEach es X.env).map (·.2) := by rfl) : SGs X io ql (p :: ps) (e :: es) :=
  PGs.imp (pgs_cons h1 h2 hs) fun vs σ H Q ⟨Z, O, env, ds, I, r, h⟩ => by
    cases r with
    | nil => exact h.elim
    | cons r rr =>
      rename_i v vs d ds _
      refine ⟨_, _, rfl, Z, O, env, _, I, r, ?_⟩
      unfold goT at h
      cases e1 : p d env with
      | none => rw [e1] at h; exact h
      | some e2 =>
        rw [e1] at h
        intro σ' H' ps2 qu2
        obtain ⟨O2, I2, st2⟩ := ps2.ex
        refine ⟨Z, O2, e2, ds, I2, rr.after I st2, ?_⟩
        rw [Option.bind_some] at h
        cases e3 : goT ps ds e2 with
        | none => rw [e3] at h; exact h
        | some e4 =>
          rw [e3] at h
          exact fun σ3 H3 p3 qu3 => h σ3 H3 (p3.thenS st2 ps2.io) fun z a o e => qu3 z a o (qu2 z a o e)
theorem sg_tup {k n : Nat} (hc : X.calm = true) (h : SGs X io ql ps es) (hp : ps.length = n := by rfl) (hn : (assignEach es X.env).length = n := by rfl) (hst : (assignEach es X.env).findIdx? (·.1) = none := by rfl) : SG X io ql (gTp ps) (.Tuple es k pos) :=
  PG.imp (pg_tup hc h hn hst) fun v σ H Q ⟨Z, O, env, d, I, r, h⟩ => by
    unfold gTp at h
    cases r with
    | tup hq rs =>
      simp only [] at h
      split at h
      · rename_i e1 he
        split at he
        · rename_i hl
          exact ⟨_, _, rfl, hq.t, by rw [rs.length, hl, hp], Z, O, env, _, I, rs, by rw [he]; exact h⟩
        · cases he
      · exact h.elim
    | non => exact h.elim
    | bl _ => exact h.elim
    | int _ => exact h.elim
    | str _ => exact h.elim
    | lst _ _ _ => exact h.elim
theorem sg_lst {k n : Nat} (hc : X.calm = true) (h : SGs X io ql ps es) (hp : ps.length = n := by rfl) (hn : (assignEach es X.env).length = n := by rfl) (hst : (assignEach es X.env).findIdx? (·.1) = none := by rfl) : SG X io ql (gLs ps) (.Tuple es k pos) :=
  PG.imp (pg_lst hc h hn hst) fun v σ H Q ⟨Z, O, env, d, I, r, h⟩ => by
    unfold gLs at h
    cases r with
    | lst hq hg rs =>
      simp only [] at h
      split at h
      · rename_i e1 he
        split at he
        · rename_i hl
          exact ⟨_, _, rfl, .inl hq, by rw [rs.length, hl, hp], Z, O, env, _, I, rs, by rw [he]; exact h⟩
        · cases he
      · exact h.elim
    | non => exact h.elim
    | bl _ => exact h.elim
    | int _ => exact h.elim
    | str _ => exact h.elim
    | tup _ _ => exact h.elim
end
/-- target = value, the value frozen -/
def dAsg (p : Tg) (f : Ev → Res) : Ev → Out := fun env => match dFr f env with
  | .ok (.own (.fz d)) e _ => (match p d e with
    | some e' => .nx e'
    | none => .stuck)
  | .ok _ _ _ => .stuck
  | .exn c e => .exn c e
  | .stuck => .stuck
theorem ss_asg {X : Cx} {io : Nat → Bool} {p : Tg} {f : Ev → Res} {tg e : Expr} {pos : Pos} (he : SE X f e) (hg : SG X io false p tg) (hs : swapsWithSole [tg] e pos.line X.env = pure false := by rfl) (hw : swappedStores [tg] e X.env = pure none := by rfl)
    (h1 : (assignEach [tg] X.env).map (·.2) = [assign tg X.env] := by rfl) : SS X io (dAsg p f) (.Assign [tg] e pos) := fun W tk => PS.imp (ps_asg (se_fr he W tk) hg hs hw h1) fun D σ H ⟨Z, O, env, I, h⟩ => by
  refine ⟨Z, O, env, I, ?_⟩
  unfold dAsg at h
  split at h
  · rename_i d e1 q ef
    rw [ef]
    split at h
    · rename_i e2 ep
      intro v H' p1
      obtain ⟨O1, F, I1, r1, nd, nz, st⟩ := p1.own1
      obtain ⟨r1, rfl⟩ := r1.fzD
      rw [Zp_nil] at I1
      refine ⟨Z, O1, e1, d, I1, r1.imp fun a g => ⟨g.1, g.2.1⟩, ?_⟩
      rw [ep]
      exact fun σ' H2 p2 _ => h σ' H2 (p2.thenS st Held.refl)
    · exact h.elim
  · exact h.elim
  · rename_i c e1 ef
    rw [ef]
    exact EndS.exn h
  · exact h.elim

/-! ### what is walked -/
/-- the iterator gives ds, while I stands -/
structure Live (K : PySem.W.Frag) (J : It) (ds : List PyData) (I : (Addr → Prop) → Hp → Prop) : Prop where
  goes : ∀ i H G, i < ds.length → I G H → J.go i H
  stops : ∀ H G, I G H → J.stop ds.length H
  yields : ∀ i H x H' G d, ds[i]? = some d → I G H → J.yld i H x H' → (∀ a o, H a = some o → H' a = some o) ∧ RF K H' G x d
  keep : ∀ {H H' : Hp} {G G' : Addr → Prop} {O : List Addr}, I G H → OM H O → (∀ a, G a → a ∉ O) → (∀ a o, a ∉ O → H a = some o → H' a = some o) → (∀ a o, G a → H a = some o → G' a) → I G' H'
def chrs (z : Str) : List PyData := z.cps.toList.map fun c => .str ⟨#[c]⟩
def itemsOf : PyData → Option (List PyData)
  | .list ds => some ds
  | .tuple ds => some ds
  | .str z => if z.length ≤ SZ then some (chrs z) else none
  | _ => none
/-- a walk's reading: its den gives the row of items -/
def TUI (K : PySem.W.Frag) (mg : Str → Option Value) (W : WX) (src : Ev → Res) : TI := fun σ H R => ∃ Z O env, SI K Z O env σ H ∧
  match src env with
  | .ok (.own (.fz (.list ds))) env' q => ∀ J H' O' I, SI K Z O' env' σ H' → Step O H O' [] H' → (q ≠ .l → Quiet H H') → ds.length ≤ SZ → Live K J ds I → I (fun a => ¬ Z a ∧ a ∉ O') H' → R J H'
  | .exn c env' => ∀ cls d H', PostX K mg Z O σ H cls d H' c env' → W cls d σ H'
  | _ => False
def SIT (X : Cx) (tg : Expr) (src : Ev → Res) (e : Expr) : Prop := ∀ W, Takes X W → PI X tg e (TUI X.K X.mg W src)
theorem PI.imp {X : Cx} {tg e : Expr} {t t' : TI} (h : PI X tg e t) (i : ∀ σ H R, t' σ H R → t σ H R) : PI X tg e t' := ⟨fun pins s σ H R I q => h.run pins s σ H R I (i σ H R q)⟩
/-- no list and no tuple is longer than the line -/
theorem pe_sz {X : Cx} {e : Expr} {t : TE} (h : PE X e t) : PE X e fun σ H Q => t σ H fun v H' => (∀ a xs, v = .ref a → (SqL X.K H' a xs ∨ SqT X.K H' a xs) → xs.length ≤ SZ) → Q v H' := ⟨fun pins s σ H Q I q => by
  refine wpAny_mono (h.run pins s σ H _ I q) (fun u s' ⟨v, H', I', r, k⟩ => ⟨v, H', I', r, k fun a xs e z => ?_⟩) fun _ _ z => z
  have e1 : sizeLine = SZ := sizeLine_eq
  rcases z with z | z
  · obtain ⟨_, _, _, hz⟩ := I'.list z
    rw [← e1]; exact hz
  · obtain ⟨_, _, _, hz⟩ := I'.tuple z
    rw [← e1]; exact hz⟩
section
variable {K : PySem.W.Frag}
theorem live_list {a : Addr} {xs : List V} {ds : List PyData} (hl : xs.length = ds.length) : Live K (Itl K a) ds (fun G H => L2.Rd H a (.lst xs) ∧ G a ∧ RFs K H G xs ds) where
  goes := fun i H G hi ⟨h, _, _⟩ => ⟨xs, xs[i]'(by omega), .inl h, List.getElem?_eq_getElem _⟩
  stops := fun H G ⟨h, _, _⟩ => ⟨xs, .inl h, by omega⟩
  yields := fun i H x H' G d hd ⟨h, _, r⟩ y => by
    obtain ⟨e, y⟩ := y
    subst e
    obtain ⟨v, e1, r1⟩ := r.get hd
    have := y xs (.inl h)
    rw [e1] at this; cases this
    exact ⟨fun _ _ e => e, r1⟩
  keep := fun ⟨h, g, r⟩ om go fr gg => ⟨rd_keep h fun o e => fr _ o (go _ g) e, by obtain ⟨o, e⟩ := rd_some h; exact gg _ _ g e, r.step om go fr gg⟩
theorem live_tup {a : Addr} {xs : List V} {ds : List PyData} (hl : xs.length = ds.length) : Live K (Itt K a) ds (fun G H => SqT K H a xs ∧ RFs K H G xs ds) where
  goes := fun i H G hi ⟨h, _⟩ => ⟨xs, xs[i]'(by omega), h, List.getElem?_eq_getElem _⟩
  stops := fun H G ⟨h, _⟩ => ⟨xs, h, by omega⟩
  yields := fun i H x H' G d hd ⟨h, r⟩ y => by
    obtain ⟨e, y⟩ := y
    subst e
    obtain ⟨v, e1, r1⟩ := r.get hd
    have := y xs h
    rw [e1] at this; cases this
    exact ⟨fun _ _ e => e, r1⟩
  keep := fun ⟨h, r⟩ om go fr gg => ⟨sqt_keep h om fr, r.step om go fr gg⟩
theorem live_str {z : Str} : Live K (Its z) (chrs z) (fun _ _ => True) where
  goes := fun i H G hi _ => by
    have : i < z.cps.size := by simpa [chrs] using hi
    exact this
  stops := fun H G _ => by
    have : z.cps.size ≤ (chrs z).length := by simp [chrs]
    exact this
  yields := fun i H x H' G d hd _ y => by
    obtain ⟨e, c, hc, rfl⟩ := y
    subst e
    refine ⟨fun _ _ e => e, ?_⟩
    have : (chrs z)[i]? = some (.str ⟨#[c]⟩) := by
      unfold chrs
      rw [List.getElem?_map, Array.getElem?_toList, hc]; rfl
    rw [this] at hd; cases hd
    exact .str _
  keep := fun _ _ _ _ _ => trivial
def rngD (lo : Int) (n : Nat) : List PyData := (List.range n).map fun i => .int (lo + (i : Nat))
theorem live_range {lo : Int} {n : Nat} : Live K (Itr lo n) (rngD lo n) (fun _ _ => True) where
  goes := fun i H G hi _ => by
    have : i < n := by simpa [rngD] using hi
    exact this
  stops := fun H G _ => by
    have : n ≤ (rngD lo n).length := by simp [rngD]
    exact this
  yields := fun i H x H' G d hd _ y => by
    obtain ⟨e, rfl⟩ := y
    subst e
    refine ⟨fun _ _ e => e, ?_⟩
    unfold rngD at hd
    rw [List.getElem?_map] at hd
    obtain ⟨j, hj, rfl⟩ := Option.map_eq_some_iff.mp hd
    obtain ⟨_, e⟩ := List.getElem?_eq_some_iff.mp hj
    rw [List.getElem_range] at e
    subst e
    exact .int _
  keep := fun _ _ _ _ _ => trivial
end
/-- the items of a value, which is frozen -/
def dIt (f : Ev → Res) : Ev → Res := fun env => match dFr f env with
  | .ok (.own (.fz d)) e q => (match itemsOf d with
    | some ds => .ok (.own (.fz (.list ds))) e q
    | none => .stuck)
  | .ok _ _ _ => .stuck
  | .exn c e => .exn c e
  | .stuck => .stuck
theorem Post.fz1 {K : PySem.W.Frag} {Z : Addr → Prop} {O : List Addr} {env env1 : Ev} {σ : L2.St} {H H' : Hp} {v : V} {d : PyData} {q : Ql} (p : Post K Z O env σ H v H' (.own (.fz d)) env1 q) :
    ∃ O', SI K Z O' env1 σ H' ∧ RF K H' (fun a => ¬ Z a ∧ a ∉ O') v d ∧ Step O H O' [] H' ∧ (q ≠ .l → Quiet H H') := by
  obtain ⟨O', F, I, r, nd, nz, st, qu, _⟩ := p.ex
  cases r with
  | own h hr =>
    cases hr
    obtain ⟨h, rfl⟩ := h.fzD
    rw [List.append_nil, Zp_nil] at I
    exact ⟨O', I, h.imp fun a g => ⟨g.1, g.2.1⟩, st, qu⟩
theorem si_val {X : Cx} {tg e : Expr} {f : Ev → Res} (he : SE X f e) : SIT X tg (dIt f) e := fun W tk => ⟨fun pins s σ H R I0 ⟨Z, O, env, I, h⟩ => by
  have he' := pe_sz (se_fr he W tk)
  unfold dIt at h
  cases ef : dFr f env with
  | stuck => rw [ef] at h; exact h.elim
  | exn c e1 =>
    rw [ef] at h
    refine (pi_list (tg := tg) he').run pins s σ H R I0 ⟨Z, O, env, I, ?_⟩
    rw [ef]; exact h
  | ok x e1 q =>
    rw [ef] at h
    cases x with
    | vw m => exact h.elim
    | own m =>
      cases m with
      | lst _ => exact h.elim
      | tup _ => exact h.elim
      | dK _ _ => exact h.elim
      | dT _ _ => exact h.elim
      | fz d =>
        cases d with
        | list ds =>
          refine (pi_list (tg := tg) he').run pins s σ H R I0 ⟨Z, O, env, I, ?_⟩
          rw [ef]
          intro v H' p sz
          obtain ⟨O', I', r, st, qu⟩ := p.fz1
          cases r with
          | lst hq hg rs =>
            exact ⟨_, rfl, ⟨_, .inl hq⟩, h _ H' O' _ I' st qu (by rw [← rs.length]; exact sz _ _ rfl (.inl (.inl hq))) (live_list rs.length) ⟨hq, hg, rs⟩⟩
        | tuple ds =>
          refine (pi_tup (tg := tg) he').run pins s σ H R I0 ⟨Z, O, env, I, ?_⟩
          rw [ef]
          intro v H' p sz
          obtain ⟨O', I', r, st, qu⟩ := p.fz1
          cases r with
          | tup hq rs =>
            exact ⟨_, rfl, ⟨_, hq.t⟩, h _ H' O' _ I' st qu (by rw [← rs.length]; exact sz _ _ rfl (.inr hq.t)) (live_tup rs.length) ⟨hq.t, rs⟩⟩
        | str z =>
          refine (pi_str (tg := tg) he').run pins s σ H R I0 ⟨Z, O, env, I, ?_⟩
          rw [ef]
          by_cases hsz : z.length ≤ SZ
          · simp only [itemsOf, if_pos hsz] at h
            intro v H' p _
            obtain ⟨O', I', r, st, qu⟩ := p.fz1
            exact ⟨z, r.strI, h _ H' O' _ I' st qu (by simpa [chrs, Str.length] using hsz) live_str trivial⟩
          · simp only [itemsOf, if_neg hsz] at h
        | none => exact h.elim
        | bool _ => exact h.elim
        | int _ => exact h.elim
        | dict _ => exact h.elim⟩
end Q

set_option Elab.async false
set_option linter.all false
set_option maxRecDepth 100000
set_option maxHeartbeats 4000000
/-! for, while, list comprehensions. -/
namespace Q
open PySem PySem.Spec PyProof.Rows L2

/-- the body, for each item -/
def runF (p : Tg) (b : Ev → Out) : List PyData → Ev → Out
  | [], env => .nx env
  | d :: ds, env => match p d env with
    | none => .stuck
    | some e => match b e with
      | .nx e' => runF p b ds e'
      | .ct e' => runF p b ds e'
      | .brk e' => .nx e'
      | r => r
def dFor (p : Tg) (src : Ev → Res) (b : Ev → Out) : Ev → Out := fun env => match src env with
  | .ok (.own (.fz (.list ds))) e _ => runF p b ds e
  | .ok _ _ _ => .stuck
  | .exn c e => .exn c e
  | .stuck => .stuck
section
variable {X : Cx} {io : Nat → Bool} {a b : Ev → Out} {f g h src : Ev → Res} {p : Tg} {s : Stmt} {ss : List Stmt} {e iter tg : Expr} {pos : Pos}
theorem ss_for (hp : PassesOwn (model X.prog X.w) X.A X.env X.xe) (hc : X.calm = true) (hi : SIT X tg src iter) (hg : SG X io false p tg) (hb : SSs X io b ss)
    (hs : ∀ x, foldedSetIterable iter X.env x = pure x := by intro _; rfl) : SS X io (dFor p src b) (.For tg iter ss [] pos) := fun W tk => PS.imp (ps_for hp hc (hi W tk) hg (hb W tk) hs) fun D σ H ⟨Z, O, env, I, h⟩ => by
  refine ⟨Z, O, env, I, ?_⟩
  unfold dFor at h
  split at h
  · rename_i ds e1 q es
    rw [es]
    intro J H1 O1 S I1 st1 _ _ L s1
    have h1 : EndS X.K X.mg W io D Z O1 σ H1 (runF p b ds e1) := h.after st1 Held.refl
    have wk : L2.Walk J ds.length (fun H => ∃ G, S G H) (fun i H x H' => ∀ G d, ds[i]? = some d → S G H → (∀ a o, H a = some o → H' a = some o) ∧ RF X.K H' G x d) :=
      ⟨fun i H hi ⟨G, s⟩ => L.goes i H G hi s, fun H ⟨G, s⟩ => L.stops H G s, fun i H x H' hi ⟨G, s⟩ y G' d hd s' => L.yields i H x H' G' d hd s' y⟩
    refine for_it wk (fun i σ' H' => ∃ O' e', SI X.K Z O' e' σ' H' ∧ S (fun a => ¬ Z a ∧ a ∉ O') H' ∧ EndS X.K X.mg W io D Z O' σ' H' (runF p b (ds.drop i) e')) ⟨O1, e1, I1, s1, h1⟩ (fun i σ' H' _ ⟨O', e', _, s', _⟩ => ⟨_, s'⟩) ?_ ?_
    · rintro i x σ2 H2 H3 hi ⟨O2, e2, I2, s2, h2⟩ y
      obtain ⟨gr, r⟩ := y _ ds[i] (List.getElem?_eq_getElem hi) s2
      have I3 := I2.grow gr
      have st3 : Step O2 H2 O2 [] H3 := ⟨fun a o n e => ⟨gr a o e, n, fun z => nomatch z⟩⟩
      have s3 := L.keep s2 I2.om (fun a g => g.2) (fun a o _ e => gr a o e) (fun a _ g _ => g)
      rw [List.drop_eq_getElem_cons hi] at h2
      unfold runF at h2
      refine ⟨Z, O2, e2, ds[i], I3, r, ?_⟩
      cases ep : p ds[i] e2 with
      | none => rw [ep] at h2; exact h2.elim
      | some e4 =>
        simp only [ep] at h2
        intro σ4 H4 p4 _
        obtain ⟨O4, I4, st4⟩ := p4.ex
        refine ⟨Z, O4, e4, I4, ?_⟩
        have again : ∀ {e5 : Ev}, EndS X.K X.mg W io D Z O2 σ2 H2 (runF p b (ds.drop (i + 1)) e5) → ∀ σ' H', PostS X.K Z O4 io σ4 H4 e5 σ' H' → ∃ O' e', SI X.K Z O' e' σ' H' ∧ S (fun a => ¬ Z a ∧ a ∉ O') H' ∧ EndS X.K X.mg W io D Z O' σ' H' (runF p b (ds.drop (i + 1)) e') := fun {e5} h5 σ' H' p5 => by
          obtain ⟨O5, I5, st5⟩ := p5.ex
          have s4 := L.keep s3 I3.om (fun a g => g.2) (fun a o n e => (st4.keep a o n e).1) (fun a o g e => (⟨g.1, (st4.keep a o g.2 e).2.1⟩ : ¬ Z a ∧ a ∉ O4))
          have s5 := L.keep s4 I4.om (fun a g => g.2) (fun a o n e => (st5.keep a o n e).1) (fun a o g e => (⟨g.1, (st5.keep a o g.2 e).2.1⟩ : ¬ Z a ∧ a ∉ O5))
          exact ⟨O5, e5, I5, s5, h5.after ((st3.tr0 st4).tr0 st5) (p4.io.trans p5.io)⟩
        have fwd : ∀ {r : Out}, EndS X.K X.mg W io D Z O2 σ2 H2 r → EndS X.K X.mg W io D Z O4 σ4 H4 r := fun h => h.after (st3.tr0 st4) p4.io
        cases eb : b e4 with
        | nx e5 => rw [eb] at h2; exact again h2
        | ct e5 => rw [eb] at h2; exact again h2
        | brk e5 => rw [eb] at h2; exact fwd h2
        | ret m e5 => rw [eb] at h2; exact fwd h2
        | exn c e5 => rw [eb] at h2; exact fwd h2
        | stuck => rw [eb] at h2; exact h2
    · rintro σ' H' ⟨O', e', I', s', h'⟩
      rw [List.drop_length] at h'
      exact h' σ' H' ⟨⟨O', I', Step.refl⟩, Held.refl⟩
  · exact h.elim
  · rename_i c e1 es
    rw [es]
    exact EndS.exn h
  · exact h.elim

/-! ### while -/
def runW (f : Ev → Res) (b : Ev → Out) : Nat → Ev → Out
  | 0, _ => .stuck
  | n + 1, env => match f env with
    | .ok (.own (.fz (.bool t))) e _ => (match t with
      | true => (match b e with
        | .nx e' => runW f b n e'
        | .ct e' => runW f b n e'
        | .brk e' => .nx e'
        | r => r)
      | false => .nx e)
    | .ok _ _ _ => .stuck
    | .exn c e => .exn c e
    | .stuck => .stuck
open Classical in
noncomputable def dWhile (f : Ev → Res) (b : Ev → Out) : Ev → Out := fun env => if h : ∃ n, runW f b n env ≠ .stuck then runW f b h.choose env else .stuck
theorem runW_more : ∀ {n m : Nat} {env : Ev}, runW f b n env ≠ .stuck → n ≤ m → runW f b m env = runW f b n env
  | 0, _, _, h, _ => absurd rfl h
  | n + 1, 0, _, _, hl => absurd hl (by omega)
  | n + 1, m + 1, env, h, hl => by
    have ih : ∀ e', runW f b n e' ≠ .stuck → runW f b m e' = runW f b n e' := fun e' h' => runW_more h' (by omega)
    unfold runW at h ⊢
    split
    · rename_i t e q ef
      rw [ef] at h
      cases t with
      | false => rfl
      | true =>
        simp only [] at h ⊢
        cases eb : b e with
        | nx e' => rw [eb] at h; exact ih e' h
        | ct e' => rw [eb] at h; exact ih e' h
        | brk e' => rfl
        | ret m e' => rfl
        | exn c e' => rfl
        | stuck => rfl
    · rfl
    · rfl
    · rfl
theorem dWhile_of {n : Nat} {env : Ev} {r : Out} (h : runW f b n env = r) (hr : r ≠ .stuck) : dWhile f b env = r := by
  unfold dWhile
  have ex : ∃ n, runW f b n env ≠ .stuck := ⟨n, by rw [h]; exact hr⟩
  rw [dif_pos ex]
  have hc := ex.choose_spec
  rcases Nat.le_total n ex.choose with hl | hl
  · rw [runW_more (by rw [h]; exact hr) hl, h]
  · rw [← runW_more hc hl, h]
theorem ss_while {c : Expr} (hp : PassesOwn (model X.prog X.w) X.A X.env X.xe) (hc : ST X f c) (hb : SSs X io b ss) : SS X io (dWhile f b) (.While c ss [] pos) := fun W tk => PS.imp (ps_while hp (hc W tk) (hb W tk)) fun D σ H ⟨Z, O, env, I, h⟩ => by
  unfold dWhile at h
  split at h
  · rename_i ex
    refine ⟨fun m σ H => ∃ Z O env, SI X.K Z O env σ H ∧ EndS X.K X.mg W io D Z O σ H (runW f b m env), ⟨_, Z, O, env, I, h⟩, ?_⟩
    rintro m σ1 H1 ⟨Z1, O1, e1, I1, h1⟩
    refine ⟨Z1, O1, e1, I1, ?_⟩
    cases m with
    | zero => exact h1.elim
    | succ m =>
      unfold runW at h1
      split at h1
      · rename_i t e q ef
        rw [ef]
        refine ⟨t, rfl, fun H2 p2 => ?_⟩
        obtain ⟨O2, I2, st2⟩ := p2.to
        cases t with
        | false => exact iteF (h1 σ1 H2 ⟨⟨O2, I2, st2⟩, Held.refl⟩)
        | true =>
          simp only [] at h1
          refine iteT ⟨fun σ' H' => ∃ Z O env, SI X.K Z O env σ' H' ∧ EndS X.K X.mg W io D Z O σ' H' (runW f b m env), fun σ' H' w => ⟨m, by omega, w⟩, Z1, O2, e, I2, ?_⟩
          have fwd : ∀ {r : Out}, EndS X.K X.mg W io D Z1 O1 σ1 H1 r → EndS X.K X.mg W io D Z1 O2 σ1 H2 r := fun h => h.after st2 Held.refl
          cases eb : b e with
          | nx e' =>
            rw [eb] at h1
            exact fun σ' H' p' => by
              obtain ⟨O', I', st'⟩ := p'.ex
              exact ⟨Z1, O', e', I', (fwd h1).after st' p'.io⟩
          | ct e' =>
            rw [eb] at h1
            exact fun σ' H' p' => by
              obtain ⟨O', I', st'⟩ := p'.ex
              exact ⟨Z1, O', e', I', (fwd h1).after st' p'.io⟩
          | brk e' => rw [eb] at h1; exact fwd h1
          | ret m e' => rw [eb] at h1; exact fwd h1
          | exn c e' => rw [eb] at h1; exact fwd h1
          | stuck => rw [eb] at h1; exact h1
      · exact h1.elim
      · rename_i c e ef
        rw [ef]
        exact EndS.exn h1
      · exact h1.elim
  · exact h.elim
end

/-! ### ranges -/
def kRng : List Val → Option (Val × Bool)
  | [.own (.fz (.int j))] => if -(2 ^ 62) ≤ j ∧ j ≤ SZ then some (.own (.fz (.list (rngD 0 j.toNat))), false) else none
  | [.own (.fz (.int i)), .own (.fz (.int j))] => if -(2 ^ 62) ≤ i ∧ i < 2 ^ 62 ∧ -(2 ^ 62) ≤ j ∧ j < 2 ^ 62 ∧ j - i ≤ SZ then some (.own (.fz (.list (rngD i (j - i).toNat))), false) else none
  | _ => none
theorem tul_mono {K : PySem.W.Frag} {mg : Str → Option Value} {W : WX} {f : Ev → ResL} {σ : L2.St} {H : Hp} {Q Q' : List V → Hp → Prop} (h : TUL K mg W f σ H Q) (qq : ∀ v H', Q v H' → Q' v H') : TUL K mg W f σ H Q' := by
  obtain ⟨Z, O, env, I, h⟩ := h
  refine ⟨Z, O, env, I, ?_⟩
  cases e : f env with
  | stuck => rw [e] at h; exact h
  | exn c e1 => rw [e] at h; exact h
  | ok x e1 q => rw [e] at h; exact fun v H' p => qq v H' (h v H' p)
theorem tui_rng {K : PySem.W.Frag} {mg : Str → Option Value} {W : WX} {fs : List (Ev → Res)} {σ : L2.St} {H : Hp} {R : It → Hp → Prop} (h : TUI K mg W (dG kRng fs) σ H R) :
    TUL K mg W (evs fs) σ H fun vs H1 => vs.length = fs.length ∧ ((∃ j : Int, vs = [.int j] ∧ -(2 ^ 62) ≤ j ∧ j < 2 ^ 62 ∧ R (Itr 0 j.toNat) H1) ∨ (∃ i j : Int, vs = [.int i, .int j] ∧ (-(2 ^ 62) ≤ i ∧ i < 2 ^ 62 ∧ -(2 ^ 62) ≤ j ∧ j < 2 ^ 62) ∧ R (Itr i (j - i).toNat) H1)) := by
  obtain ⟨Z, O, env, I, h⟩ := h
  refine ⟨Z, O, env, I, ?_⟩
  unfold dG at h
  cases e : evs fs env with
  | stuck => rw [e] at h; exact h.elim
  | exn c e1 => rw [e] at h; exact h
  | ok xs e1 q =>
    rw [e] at h
    simp only [] at h
    intro vs H1 p
    obtain ⟨O1, I1, st1⟩ := p.to
    have hl := p.len
    refine ⟨hl.trans (evs_len e), ?_⟩
    have qu : q ≠ .l → Quiet H H1 := by obtain ⟨_, _, _, _, _, _, _, qu, _⟩ := p.ex; exact qu
    have qf : ∀ n, q.f n ≠ .l → Quiet H H1 := fun n z => qu fun e => z (by rw [e]; cases n <;> rfl)
    have sz : SZ = 16777216 := rfl
    cases ek : kRng xs with
    | none => simp only [ek] at h
    | some yn =>
      unfold kRng at ek
      split at ek
      · rename_i j
        split at ek
        · rename_i hj
          cases ek
          simp only [kRng, if_pos hj] at h
          match vs, hl, p with
          | [v], _, p =>
            obtain ⟨O', F, pa⟩ := p.ex
            have ev : v = .int j := pa.2.1.fz1.intI
            subst ev
            exact .inl ⟨j, rfl, hj.1, by omega, h _ H1 O1 _ I1 st1 (qf _) (by simp [rngD]; omega) live_range trivial⟩
        · cases ek
      · rename_i i j
        split at ek
        · rename_i hj
          cases ek
          simp only [kRng, if_pos hj] at h
          match vs, hl, p with
          | [v, w], _, p =>
            have ew : w = .int j := second_int p
            obtain ⟨O', F, pa⟩ := p.ex
            have ev : v = .int i := pa.2.1.fz1.intI
            subst ev; subst ew
            exact .inr ⟨i, j, rfl, ⟨hj.1, hj.2.1, hj.2.2.1, hj.2.2.2.1⟩, h _ H1 O1 _ I1 st1 (qf _) (by simp [rngD]; omega) live_range trivial⟩
        · cases ek
      · cases ek
section
variable {X : Cx} {tg a b : Expr} {f g : Ev → Res} {p pos : Pos}
theorem si_rng1 (hg : Gl X "range") (hm : X.mg "range" = none) (ha : SE X f a) (hs : starEach [a] X.env = [(false, eval a X.env)] := by rfl) : SIT X tg (dG kRng [f]) (.Call (.Name "range" p) [a] [] pos) := fun W tk =>
  PI.imp (pi_range1 hg hm (sa_cons ha sa_nil hs W tk) hs) fun σ H R h => tul_mono (tui_rng h) fun vs H1 ⟨hl, q⟩ => by
    rcases q with ⟨j, rfl, h1, h2, r⟩ | ⟨i, j, rfl, _⟩
    · exact ⟨j, rfl, h1, h2, r⟩
    · simp at hl
theorem si_rng2 (hg : Gl X "range") (hm : X.mg "range" = none) (ha : SE X f a) (hb : SE X g b) (hs : starEach [a, b] X.env = [(false, eval a X.env), (false, eval b X.env)] := by rfl) (hs2 : starEach [b] X.env = [(false, eval b X.env)] := by rfl) : SIT X tg (dG kRng [f, g]) (.Call (.Name "range" p) [a, b] [] pos) := fun W tk =>
  PI.imp (pi_range2 hg hm (sa_cons ha (sa_cons hb sa_nil hs2) (by rw [hs, hs2]) W tk) hs hs2) fun σ H R h => tul_mono (tui_rng h) fun vs H1 ⟨hl, q⟩ => by
    rcases q with ⟨j, rfl, _⟩ | ⟨i, j, rfl, h1, r⟩
    · simp at hl
    · exact ⟨i, j, rfl, h1, r⟩
end
end Q

set_option Elab.async false
set_option linter.all false
set_option maxRecDepth 100000
set_option maxHeartbeats 4000000
/-! List comprehensions. -/
namespace Q
open PySem PySem.Spec PyProof.Rows L2

def wipeE (e : Ev) : List Nat → Ev
  | [] => e
  | v :: vs => (wipeE e vs).set v none
def emptyAt (e : Ev) (i : Nat) : Bool := match e[i]? with
  | some (some _) => false
  | _ => true
def runC (p : Tg) (t f : Ev → Res) (vs : List Nat) : List PyData → Ev → Option (List M × Ev × Ql)
  | [], env => some ([], env, .p)
  | d :: ds, env => match p d env with
    | none => none
    | some e1 => match t e1 with
      | .ok (.own (.fz (.bool b))) e2 q1 => (match b with
        | true => (match f e2 with
          | .ok (.own m) e3 q2 => (runC p t f vs ds (wipeE e3 vs)).map fun r => (m :: r.1, r.2.1, (q1.j q2).j r.2.2)
          | _ => none)
        | false => (runC p t f vs ds (wipeE e2 vs)).map fun r => (r.1, r.2.1, q1.j r.2.2))
      | _ => none
/-- nothing or frozen data -/
def calmAt (e : Ev) (i : Nat) : Bool := match e[i]? with
  | some (some (.fz _)) => true
  | some (some _) => false
  | _ => true
def atE (e : Ev) (i : Nat) : Option M := match e[i]? with
  | some x => x
  | none => none
/-- what the names held ahead of the block -/
def restE (e' e : Ev) : List Nat → Ev
  | [] => e'
  | v :: vs => (restE e' e vs).set v (atE e v)
def dLc (p : Tg) (src t f : Ev → Res) (vs : List Nat) : Ev → Res := fun env => match src env with
  | .ok (.own (.fz (.list ds))) e q => if vs.all (calmAt e) = true then (match runC p t f vs ds (wipeE e vs) with
    | some r => .ok (.own (.lst r.1)) (restE r.2.1 e vs) (q.j r.2.2).n
    | none => .stuck) else .stuck
  | .ok _ _ _ => .stuck
  | .exn c e => .exn c e
  | .stuck => .stuck
section
variable {K : PySem.W.Frag} {mg : Str → Option Value} {H H' H0 H1 H2 : Hp} {G G' Gv Gv' : Addr → Prop} {O O' O0 O1 O2 F F' F1 F2 : List Addr} {Z : Addr → Prop} {env env1 env2 : Ev} {σ σ1 σ' : L2.St} {vs : List Nat}
theorem emptyAt_ne {e : Ev} {i : Nat} (h : emptyAt e i = true) (m : M) : e[i]? ≠ some (some m) := fun z => by
  unfold emptyAt at h
  rw [z] at h; cases h
theorem emptyAt_of {e : Ev} {i : Nat} (h : ∀ m, e[i]? ≠ some (some m)) : emptyAt e i = true := by
  unfold emptyAt
  split
  · rename_i m z; exact absurd z (h m)
  · rfl
theorem Slots.void : ∀ {env : Ev} {σ : L2.St} {Fs : List (List Addr)} {i : Nat} {x : Option V}, Slots K H G env σ Fs → (∀ m, env[i]? ≠ some (some m)) → Slots K H G env (σ.set i x) Fs
  | _, _, _, _, _, .nil, _ => .nil
  | _, _, _, 0, _, .non r, _ => .non r
  | _, _, _, 0, _, .som (m := m) h r, n => absurd rfl (n m)
  | _, _, _, i + 1, _, .non r, n => .non (Slots.void r fun m => by simpa using n m)
  | _, _, _, i + 1, _, .som h r, n => .som h (Slots.void r fun m => by simpa using n m)
theorem Slots.unvoid : ∀ {env : Ev} {σ : L2.St} {Fs : List (List Addr)} {i : Nat} {x : Option V}, Slots K H G env (σ.set i x) Fs → (∀ m, env[i]? ≠ some (some m)) → Slots K H G env σ Fs
  | env, [], _, _, _, r, _ => by simpa using r
  | _, y :: σ, _, 0, _, .non r, _ => .non r
  | _, y :: σ, _, 0, _, .som (m := m) h r, n => absurd rfl (n m)
  | _, y :: σ, _, i + 1, _, .non r, n => .non (Slots.unvoid (i := i) r fun m => by simpa using n m)
  | _, some v :: σ, _, i + 1, _, .som h r, n => .som h (Slots.unvoid (i := i) r fun m => by simpa using n m)
theorem SI.void (I : SI K Z O env σ H) : ∀ {vs : List Nat}, vs.all (emptyAt env) = true → SI K Z O env (wipe σ vs) H
  | [], _ => I
  | v :: vs, h => by
    rw [List.all_cons, Bool.and_eq_true] at h
    have I2 := SI.void I h.2
    obtain ⟨Fs, s, e⟩ := I2.sl
    exact ⟨⟨Fs, s.void (emptyAt_ne h.1), e⟩, I2.nd, I2.nz, I2.zt⟩
theorem SI.unvoid : ∀ {vs : List Nat}, SI K Z O env (wipe σ vs) H → vs.all (emptyAt env) = true → SI K Z O env σ H
  | [], I, _ => I
  | v :: vs, I, h => by
    rw [List.all_cons, Bool.and_eq_true] at h
    obtain ⟨Fs, s, e⟩ := I.sl
    exact SI.unvoid ⟨⟨Fs, s.unvoid (emptyAt_ne h.1), e⟩, I.nd, I.nz, I.zt⟩ h.2
theorem Slots.kill : ∀ {env : Ev} {σ : L2.St} {Fs : List (List Addr)} {i : Nat}, Slots K H G env σ Fs → Slots K H G (env.set i none) (σ.set i none) (Fs.set i [])
  | _, _, _, _, .nil => .nil
  | _, _, _, 0, .non r => .non r
  | _, _, _, 0, .som _ r => .non r
  | _, _, _, i + 1, .non r => .non (Slots.kill r)
  | _, _, _, i + 1, .som h' r => .som h' (Slots.kill r)
theorem flat_nil_set : ∀ {Fs : List (List Addr)} {i : Nat}, Fs.flatten.Nodup → (Fs.set i []).flatten.Nodup
  | [], _, _ => by simp
  | x :: r, 0, nd => by
    rw [List.flatten_cons] at nd
    simpa using (List.nodup_append.mp nd).2.1
  | x :: r, i + 1, nd => by
    rw [List.flatten_cons] at nd
    obtain ⟨n1, n2, n3⟩ := List.nodup_append.mp nd
    rw [List.set_cons_succ, List.flatten_cons]
    exact List.nodup_append.mpr ⟨n1, flat_nil_set n2, fun a ha b hb e => n3 a ha b ((mem_flat_set hb).elim id fun z => nomatch z) e⟩
theorem SI.wipe (I : SI K Z O env σ H) : ∀ (vs : List Nat), ∃ O', SI K Z O' (wipeE env vs) (L2.wipe σ vs) H ∧ ∀ a ∈ O', a ∈ O
  | [] => ⟨O, I, fun _ z => z⟩
  | v :: vs => by
    obtain ⟨O1, I1, s1⟩ := SI.wipe I vs
    obtain ⟨Fs, s, rfl⟩ := I1.sl
    have sub : ∀ a ∈ (Fs.set v ([] : List Addr)).flatten, a ∈ Fs.flatten := fun a ha => (mem_flat_set ha).elim id fun z => nomatch z
    exact ⟨_, ⟨⟨_, (s.imp fun a g => ⟨g.1, fun z => g.2 (sub a z)⟩).kill, rfl⟩, flat_nil_set I1.nd, fun a ha => I1.nz a (sub a ha), I1.zt⟩, fun a ha => s1 a (sub a ha)⟩
theorem wipeE_empty (e : Ev) : ∀ (vs : List Nat), vs.all (emptyAt (wipeE e vs)) = true := by
  intro vs
  have key : ∀ (vs : List Nat) (i : Nat), i ∈ vs → ∀ m, (wipeE e vs)[i]? ≠ some (some m) := by
    intro vs
    induction vs with
    | nil => intro i h; cases h
    | cons v vs ih =>
      intro i h m z
      unfold wipeE at z
      by_cases hv : v = i
      · subst hv
        by_cases hl : v < (wipeE e vs).length
        · rw [List.getElem?_set_self hl] at z; cases z
        · rw [List.getElem?_eq_none (by simpa using hl)] at z; cases z
      · rw [List.getElem?_set_ne hv] at z
        rcases List.mem_cons.mp h with h | h
        · exact hv h.symm
        · exact ih i h m z
  rw [List.all_eq_true]
  exact fun i hi => emptyAt_of (key vs i hi)
/-- what stands in the calm slots -/
def Stash (K : PySem.W.Frag) (σ : L2.St) (e : Ev) (vs : List Nat) (G : Addr → Prop) (H : Hp) : Prop := ∀ v ∈ vs, ∀ d, atE e v = some (.fz d) → ∃ x, σ[v]? = some (some x) ∧ RF K H G x d
theorem SI.rest {e : Ev} : ∀ {vs : List Nat}, SI K Z O env (L2.wipe σ vs) H → vs.all (emptyAt env) = true → vs.all (calmAt e) = true → Stash K σ e vs (fun a => ¬ Z a ∧ a ∉ O) H → ∃ O', SI K Z O' (restE env e vs) σ H ∧ ∀ a ∈ O', a ∈ O
  | [], I, _, _, _ => ⟨O, I, fun _ z => z⟩
  | v :: vs, I, h, hc, st => by
    rw [List.all_cons, Bool.and_eq_true] at h hc
    have I0 : SI K Z O env (L2.wipe σ vs) H := by
      obtain ⟨Fs, s, e⟩ := I.sl
      exact ⟨⟨Fs, s.unvoid (emptyAt_ne h.1), e⟩, I.nd, I.nz, I.zt⟩
    obtain ⟨O1, I1, s1⟩ := SI.rest I0 h.2 hc.2 fun w hw => st w (List.mem_cons_of_mem _ hw)
    obtain ⟨Fs, sl, rfl⟩ := I1.sl
    have sub : ∀ a ∈ (Fs.set v ([] : List Addr)).flatten, a ∈ Fs.flatten := fun a ha => (mem_flat_set ha).elim id fun z => nomatch z
    refine ⟨(Fs.set v []).flatten, ?_, fun a ha => s1 a (sub a ha)⟩
    unfold restE
    cases ev : atE e v with
    | none => exact ⟨⟨_, (sl.imp fun a g => ⟨g.1, fun z => g.2 (sub a z)⟩).drop, rfl⟩, flat_nil_set I1.nd, fun a ha => I1.nz a (sub a ha), I1.zt⟩
    | some m =>
      cases m with
      | fz d =>
        obtain ⟨x, hx, rf⟩ := st v List.mem_cons_self d ev
        exact ⟨⟨_, (sl.imp fun a g => ⟨g.1, fun z => g.2 (sub a z)⟩).put' (.fz (rf.imp fun a g => ⟨g.1, fun z => g.2 (s1 a (sub a z))⟩)) hx, rfl⟩, flat_nil_set I1.nd, fun a ha => I1.nz a (sub a ha), I1.zt⟩
      | lst _ => have := hc.1; unfold atE at ev; unfold calmAt at this; split at ev <;> simp_all
      | tup _ => have := hc.1; unfold atE at ev; unfold calmAt at this; split at ev <;> simp_all
      | dK _ _ => have := hc.1; unfold atE at ev; unfold calmAt at this; split at ev <;> simp_all
      | dT _ _ => have := hc.1; unfold atE at ev; unfold calmAt at this; split at ev <;> simp_all
theorem SI.stash {e : Ev} {vs : List Nat} (I : SI K Z O e σ H) : Stash K σ e vs (fun a => ¬ Z a ∧ a ∉ O) H := fun v hv d h => by
  unfold atE at h
  split at h
  · rename_i x ex
    subst h
    obtain ⟨x, F, h1, h2, _⟩ := I.get ex
    exact ⟨x, h1, h2.fzD.1⟩
  · cases h
theorem Stash.keep {e : Ev} {vs : List Nat} {G' : Addr → Prop} (s : Stash K σ e vs G H) (om : OM H O) (go : ∀ a, G a → a ∉ O) (fr : ∀ a o, a ∉ O → H a = some o → H' a = some o) (gg : ∀ a o, G a → H a = some o → G' a) : Stash K σ e vs G' H' := fun v hv d h => by
  obtain ⟨x, h1, h2⟩ := s v hv d h
  exact ⟨x, h1, h2.step om go fr gg⟩
theorem Live.stash {J : It} {ds : List PyData} {S : (Addr → Prop) → Hp → Prop} {e : Ev} (L : Live K J ds S) : Live K J ds (fun G H => S G H ∧ Stash K σ e vs G H) :=
  ⟨fun i H G hi s => L.goes i H G hi s.1, fun H G s => L.stops H G s.1, fun i H x H' G d hd s y => L.yields i H x H' G d hd s.1 y, fun s om go fr gg => ⟨L.keep s.1 om go fr gg, s.2.keep om go fr gg⟩⟩
theorem wipe_held (h : Held (fun i => !vs.contains i) (L2.wipe σ vs) σ') : L2.wipe σ' vs = L2.wipe σ vs := by
  have out : ∀ {τ : L2.St} {i : Nat} {ws : List Nat}, i ∉ ws → (L2.wipe τ ws)[i]? = τ[i]? := by
    intro τ i ws
    induction ws with
    | nil => intro _; rfl
    | cons w ws ih =>
      intro n
      simp only [List.mem_cons, not_or] at n
      unfold L2.wipe
      rw [List.getElem?_set_ne (fun z => n.1 z.symm), ih n.2]
  have inn : ∀ {τ : L2.St} {i : Nat} {ws : List Nat}, i ∈ ws → i < τ.length → (L2.wipe τ ws)[i]? = some none := by
    intro τ i ws
    induction ws with
    | nil => intro h; cases h
    | cons w ws ih =>
      intro h hl
      unfold L2.wipe
      by_cases hw : w = i
      · subst hw
        rw [List.getElem?_set_self (by rw [wipe_length]; exact hl)]
      · rw [List.getElem?_set_ne hw]
        rcases List.mem_cons.mp h with h | h
        · exact absurd h.symm hw
        · exact ih h hl
  have hl : σ'.length = σ.length := by rw [h.1, wipe_length]
  apply List.ext_getElem?
  intro i
  by_cases hi : i ∈ vs
  · by_cases hlt : i < σ.length
    · rw [inn hi (by omega), inn hi hlt]
    · rw [List.getElem?_eq_none (by rw [wipe_length]; omega), List.getElem?_eq_none (by rw [wipe_length]; omega)]
  · rw [out hi, h.2 i (by simpa using hi)]
/-- the state ahead of a turn -/
structure LcS (K : PySem.W.Frag) (Z : Addr → Prop) (O0 : List Addr) (H0 : Hp) (D : Addr) (S : (Addr → Prop) → Hp → Prop) (σw : L2.St) (vs : List Nat) (i : Nat) (H : Hp) (e : Ev) (ms : List M) (q : Ql) : Prop where
  ex : ∃ O acc F, SI K (Zp Z (D :: F)) O e σw H ∧ H D = some (.lst acc) ∧ RMs K H (fun a => ¬ Z a ∧ a ∉ O ∧ a ∉ D :: F) acc ms F ∧ F.Nodup ∧ D ∉ F ∧ (∀ a ∈ D :: F, ¬ Z a) ∧ Step O0 H0 O (D :: F) H ∧ S (fun a => ¬ Zp Z (D :: F) a ∧ a ∉ O) H ∧ acc.length ≤ i
  em : vs.all (emptyAt e) = true
  qu : q ≠ .l → Quiet H0 H ∧ H0 D = none
theorem Zp_assoc {A B : List Addr} {D : Addr} : ∀ a, Zp Z (D :: (A ++ B)) a → Zp (Zp Z (D :: A)) B a := fun a z => by
  rcases z with z | z
  · exact .inl (.inl z)
  · rcases List.mem_cons.mp z with z | z
    · exact .inl (.inr (by rw [z]; exact List.mem_cons_self))
    · rcases List.mem_append.mp z with z | z
      · exact .inl (.inr (List.mem_cons_of_mem _ z))
      · exact .inr z
theorem RMs.two : ∀ {vs : List V} {ms : List M} {F : List Addr}, RMs K H G vs ms F → vs.length = ms.length := RMs.length
/-- one more item at the end of the new list -/
theorem Lc.add {D : Addr} {acc : List V} {ms : List M} {m : M} {v : V} {e3 : Ev} {H3 H4 : Hp} {O3 : List Addr} {q2 : Ql} (I : SI K (Zp Z (D :: F)) O env σ1 H) (hD : H D = some (.lst acc)) (rm : RMs K H (fun a => ¬ Z a ∧ a ∉ O ∧ a ∉ D :: F) acc ms F) (nd : F.Nodup) (nD : D ∉ F) (nz : ∀ a ∈ D :: F, ¬ Z a) (st : Step O0 H0 O (D :: F) H)
    (st3 : Step O H O3 [] H3) (p : Post K (Zp Z (D :: F)) O3 env1 σ H3 v H4 (.own m) e3 q2) :
    H4 D = some (.lst acc) ∧ ∃ O5 F2, SI K (Zp Z (D :: (F ++ F2))) O5 (wipeE e3 vs) (L2.wipe σ vs) (upd H4 D (.lst (acc ++ [v]))) ∧ RMs K (upd H4 D (.lst (acc ++ [v]))) (fun a => ¬ Z a ∧ a ∉ O5 ∧ a ∉ D :: (F ++ F2)) (acc ++ [v]) (ms ++ [m]) (F ++ F2) ∧ (F ++ F2).Nodup ∧ D ∉ F ++ F2 ∧ (∀ a ∈ D :: (F ++ F2), ¬ Z a) ∧
      Step O0 H0 O5 (D :: (F ++ F2)) (upd H4 D (.lst (acc ++ [v]))) ∧ (∀ a o, a ∉ O → a ≠ D → H a = some o → upd H4 D (.lst (acc ++ [v])) a = some o ∧ a ∉ O5 ∧ a ∉ F2) := by
  obtain ⟨O4, F2, I4, rv, nd2, nz2, st4⟩ := p.own1
  have st' : Step O H O4 F2 H4 := st3.tr0 st4
  have DO : D ∉ O := fun z => I.nz D z (.inr List.mem_cons_self)
  obtain ⟨hD4, DO4, DF2⟩ := st'.keep D _ DO hD
  refine ⟨hD4, ?_⟩
  obtain ⟨O5, I5, sub⟩ := I4.wipe vs
  have DO5 : D ∉ O5 := fun z => DO4 (sub D z)
  -- the write at D
  have fr : ∀ a o, a ∉ [D] → H4 a = some o → upd H4 D (.lst (acc ++ [v])) a = some o := fun a o n e => by
    rw [upd_ne (fun z => n (by rw [z]; exact List.mem_cons_self))]; exact e
  have om : OM H4 [D] := fun b hb => by
    rw [List.mem_singleton.mp hb, hD4]
    exact ⟨fun xs z => (by cases z), fun o u z => (by cases z)⟩
  have I6 : SI K (Zp Z (D :: (F ++ F2))) O5 (wipeE e3 vs) (L2.wipe σ vs) (upd H4 D (.lst (acc ++ [v]))) := by
    obtain ⟨Fs, s, e5⟩ := I5.sl
    refine ⟨⟨Fs, Slots.stepL.Slots.all (O := [D]) (G' := fun a => ¬ Zp Z (D :: (F ++ F2)) a ∧ a ∉ O5) s om (fun b g hb => ?_) (fun j Fj ej b hb hc => ?_) fr (fun b g => ⟨fun z => g.1 (Zp_assoc b z), g.2⟩), e5⟩, I5.nd, fun a ha z => I5.nz a ha (Zp_assoc a z), fun a z => ?_⟩
    · rw [List.mem_singleton.mp hb] at g
      exact g.1 (.inl (.inr List.mem_cons_self))
    · rw [List.mem_singleton.mp hc] at hb
      exact DO5 (by rw [← e5]; exact mem_flat_at ej hb)
    · by_cases q : a = D
      · exact ⟨_, by rw [q]; exact upd_same⟩
      · obtain ⟨o, e⟩ := I5.zt a (Zp_assoc a z)
        exact ⟨o, by rw [upd_ne q]; exact e⟩
  have FO : ∀ a ∈ F, a ∉ O := fun a ha z => I.nz a z (.inr (List.mem_cons_of_mem _ ha))
  have disj : ∀ a ∈ F, a ∉ F2 := fun a ha z => nz2 a z (.inr (List.mem_cons_of_mem _ ha))
  have nDD : D ∉ F ++ F2 := fun z => (List.mem_append.mp z).elim nD DF2
  refine ⟨O5, F2, I6, ?_, List.nodup_append.mpr ⟨nd, nd2, fun a ha b hb e => disj a ha (e ▸ hb)⟩, nDD, fun a ha => ?_, ⟨fun a o n e => ?_⟩, fun a o n ne e => ?_⟩
  · have r1 : RMs K H4 (fun a => ¬ Z a ∧ a ∉ O5 ∧ a ∉ D :: (F ++ F2)) acc ms F := rm.step I.om (fun a g => g.2.1) FO (fun a o n e => (st'.keep a o n e).1) fun a o g e => ⟨g.1, fun z => (st'.keep a o g.2.1 e).2.1 (sub a z), fun z => by
      rcases List.mem_cons.mp z with z | z
      · exact g.2.2 (by rw [z]; exact List.mem_cons_self)
      · rcases List.mem_append.mp z with z | z
        · exact g.2.2 (List.mem_cons_of_mem _ z)
        · exact (st'.keep a o g.2.1 e).2.2 z⟩
    have r2 : RM K H4 (fun a => ¬ Z a ∧ a ∉ O5 ∧ a ∉ D :: (F ++ F2)) v m F2 := rv.imp fun a g => ⟨fun z => g.1 (.inl z), fun z => g.2.1 (sub a z), fun z => by
      rcases List.mem_cons.mp z with z | z
      · exact g.1 (.inr (by rw [z]; exact List.mem_cons_self))
      · rcases List.mem_append.mp z with z | z
        · exact g.1 (.inr (List.mem_cons_of_mem _ z))
        · exact g.2.2 z⟩
    refine (r1.app r2).step om (fun a g hb => g.2.2 (by rw [List.mem_singleton.mp hb]; exact List.mem_cons_self)) (fun a ha hb => ?_) fr fun a _ g _ => g
    rw [List.mem_singleton.mp hb] at ha
    exact nDD ha
  · rcases List.mem_cons.mp ha with z | z
    · exact nz a (by rw [z]; exact List.mem_cons_self)
    · rcases List.mem_append.mp z with z | z
      · exact nz a (List.mem_cons_of_mem _ z)
      · exact fun q => nz2 a z (.inl q)
  · obtain ⟨e1, n1, f1⟩ := st.keep a o n e
    obtain ⟨e2, n2, f2⟩ := st'.keep a o n1 e1
    have ne : a ≠ D := fun z => f1 (by rw [z]; exact List.mem_cons_self)
    refine ⟨by rw [upd_ne ne]; exact e2, fun z => n2 (sub a z), fun z => ?_⟩
    rcases List.mem_cons.mp z with z | z
    · exact ne z
    · rcases List.mem_append.mp z with z | z
      · exact f1 (List.mem_cons_of_mem _ z)
      · exact f2 z
  · obtain ⟨e2, n2, f2⟩ := st'.keep a o n e
    exact ⟨by rw [upd_ne ne]; exact e2, fun z => n2 (sub a z), f2⟩

theorem ql_assoc (a b c : Ql) : (a.j b).j c = a.j (b.j c) := by cases a <;> cases b <;> cases c <;> rfl
/-- nothing is added -/
theorem Lc.same {D : Addr} {acc : List V} {ms : List M} {e3 : Ev} {H3 : Hp} {O3 : List Addr} (I : SI K (Zp Z (D :: F)) O env σ1 H) (hD : H D = some (.lst acc)) (rm : RMs K H (fun a => ¬ Z a ∧ a ∉ O ∧ a ∉ D :: F) acc ms F) (nD : D ∉ F) (nz : ∀ a ∈ D :: F, ¬ Z a) (st : Step O0 H0 O (D :: F) H)
    (st3 : Step O H O3 [] H3) (I3 : SI K (Zp Z (D :: F)) O3 e3 σ H3) :
    H3 D = some (.lst acc) ∧ ∃ O5, SI K (Zp Z (D :: F)) O5 (wipeE e3 vs) (L2.wipe σ vs) H3 ∧ RMs K H3 (fun a => ¬ Z a ∧ a ∉ O5 ∧ a ∉ D :: F) acc ms F ∧ Step O0 H0 O5 (D :: F) H3 ∧ (∀ a o, a ∉ O → H a = some o → H3 a = some o ∧ a ∉ O5) := by
  have DO : D ∉ O := fun z => I.nz D z (.inr List.mem_cons_self)
  obtain ⟨hD3, DO3, _⟩ := st3.keep D _ DO hD
  obtain ⟨O5, I5, sub⟩ := I3.wipe vs
  have FO : ∀ a ∈ F, a ∉ O := fun a ha z => I.nz a z (.inr (List.mem_cons_of_mem _ ha))
  refine ⟨hD3, O5, I5, rm.step I.om (fun a g => g.2.1) FO (fun a o n e => (st3.keep a o n e).1) fun a o g e => ⟨g.1, fun z => (st3.keep a o g.2.1 e).2.1 (sub a z), g.2.2⟩, ⟨fun a o n e => ?_⟩, fun a o n e => ⟨(st3.keep a o n e).1, fun z => (st3.keep a o n e).2.1 (sub a z)⟩⟩
  obtain ⟨e1, n1, f1⟩ := st.keep a o n e
  obtain ⟨e2, n2, _⟩ := st3.keep a o n1 e1
  exact ⟨e2, fun z => n2 (sub a z), f1⟩
theorem ql_j_l {a b : Ql} (h : a.j b ≠ .l) : a ≠ .l ∧ b ≠ .l := qj_l h
theorem tu_lc {W : WX} {p : Tg} {src t f : Ev → Res} {Q : VK} (h : TU K mg W (dLc p src t f vs) σ H Q) :
    tLc (TUI K mg W src) (TUG K (fun i => !vs.contains i) true p) (TUT K mg (fun _ _ _ _ => False) t) (TU K mg (fun _ _ _ _ => False) f) vs σ H Q := by
  obtain ⟨Z, O, env, I, h⟩ := h
  refine ⟨Z, O, env, I, ?_⟩
  unfold dLc at h
  cases es : src env with
  | stuck => rw [es] at h; exact h.elim
  | exn c e1 => rw [es] at h; exact h
  | ok x e1 q =>
    rw [es] at h
    cases x with
    | vw m => exact h.elim
    | own m =>
      cases m with
      | lst _ => exact h.elim
      | tup _ => exact h.elim
      | dK _ _ => exact h.elim
      | dT _ _ => exact h.elim
      | fz d =>
        cases d with
        | none => exact h.elim
        | bool _ => exact h.elim
        | int _ => exact h.elim
        | dict _ => exact h.elim
        | str _ => exact h.elim
        | tuple _ => exact h.elim
        | list ds =>
          by_cases em : vs.all (calmAt e1) = true
          · simp only [if_pos em] at h
            intro J H1 O1' S0 I1' st1' qu1 hlen L0 s0 D hD
            obtain ⟨O1, I1, subO⟩ := I1'.wipe vs
            have st1 : Step O H O1 [] H1 := ⟨fun a o n e => let ⟨e2, n2, _⟩ := st1'.keep a o n e; ⟨e2, fun z => n2 (subO a z), fun z => nomatch z⟩⟩
            obtain ⟨S, hS⟩ : ∃ S, S = fun (G : Addr → Prop) (H : Hp) => S0 G H ∧ Stash K σ e1 vs G H := ⟨_, rfl⟩
            have L : Live K J ds S := by rw [hS]; exact L0.stash
            have s1 : S (fun a => ¬ Z a ∧ a ∉ O1) H1 := by
              rw [hS]
              exact (L0.stash (σ := σ) (e := e1) (vs := vs)).keep (G := fun a => ¬ Z a ∧ a ∉ O1') ⟨s0, I1'.stash (vs := vs)⟩ (O := []) (fun _ z => nomatch z) (fun _ _ z => nomatch z) (fun a o _ e => e) fun a o g _ => ⟨g.1, fun z => g.2 (subO a z)⟩
            cases er : runC p t f vs ds (wipeE e1 vs) with
            | none => simp only [er] at h
            | some r =>
              simp only [er] at h
              have wk : L2.Walk J ds.length (fun H => ∃ G, S G H) (fun i H x H' => ∀ G d, ds[i]? = some d → S G H → (∀ a o, H a = some o → H' a = some o) ∧ RF K H' G x d) :=
                ⟨fun i H hi ⟨G, s⟩ => L.goes i H G hi s, fun H ⟨G, s⟩ => L.stops H G s, fun i H x H' hi ⟨G, s⟩ y G' d hd s' => L.yields i H x H' G' d hd s' y⟩
              have kD := upd_keep (o := HO.lst []) hD
              have hO1 : D ∉ O1 := fun z => by
                obtain ⟨o, e, _⟩ := I1.owd D z
                rw [hD] at e; cases e
              have hZ : ¬ Z D := fun z => by
                obtain ⟨o, e⟩ := I1.zt D z
                rw [hD] at e; cases e
              have omD : OM H1 [D] := fun b hb => by
                rw [List.mem_singleton.mp hb, hD]
                exact ⟨fun xs z => (by cases z), fun o u z => (by cases z)⟩
              refine lc_it wk (fun i H' => ∃ e' ms q', ∃ r', LcS K Z O H D S (L2.wipe σ vs) vs i H' e' ms q' ∧ (∃ acc, H' D = some (.lst acc) ∧ acc.length = ms.length) ∧ runC p t f vs (ds.drop i) e' = some r' ∧ ms ++ r'.1 = r.1 ∧ r'.2.1 = r.2.1 ∧ q'.j r'.2.2 = q.j r.2.2)
                ⟨wipeE e1 vs, [], q, r, ⟨⟨O1, [], [], ?_, upd_same, .nil, List.Pairwise.nil, (fun z => nomatch z), fun a ha => ?_, ⟨fun a o n e => ?_⟩, ?_, Nat.le_refl _⟩, wipeE_empty _ _, fun z => ⟨fun a o e => kD a o (qu1 z a o e), by
                  cases e : H D with
                  | none => rfl
                  | some o => have := qu1 z D o e; rw [hD] at this; cases this⟩⟩, ⟨[], upd_same, rfl⟩, er, rfl, rfl, rfl⟩ (fun i H' _ ⟨_, _, _, _, l, _⟩ => by
                  obtain ⟨_, _, _, _, _, _, _, _, _, _, s, _⟩ := l.ex
                  exact ⟨_, s⟩) ?_ ?_
              · have I2 := I1
                obtain ⟨Fs, sl, e5⟩ := I2.sl
                refine ⟨⟨Fs, Slots.stepL.Slots.all (O := [D]) (G' := fun a => ¬ Zp Z [D] a ∧ a ∉ O1) (H := H1) ?_ omD (fun b g hb => ?_) (fun j Fj ej b hb hc => ?_) (fun a o _ e => kD a o e) (fun b g => g), e5⟩, I2.nd, fun a ha z => ?_, fun a z => ?_⟩
                · have key : ∀ {env : Ev} {σ : L2.St} {Fs : List (List Addr)}, Slots K H1 (fun a => ¬ Z a ∧ a ∉ O1) env σ Fs → Slots K H1 (fun a => ¬ Zp Z [D] a ∧ a ∉ O1) env σ Fs := by
                    intro env σ Fs s
                    induction s with
                    | nil => exact .nil
                    | non _ ih => exact .non ih
                    | som h _ ih =>
                      refine .som (h.step (O := []) (fun _ z => nomatch z) (fun _ _ z => nomatch z) (fun _ _ z => nomatch z) (fun a o _ e => e) fun a o g e => ⟨fun z => ?_, g.2⟩) ih
                      rcases z with z | z
                      · exact g.1 z
                      · rw [List.mem_singleton.mp z, hD] at e; cases e
                  exact key sl
                · rw [List.mem_singleton.mp hb] at g
                  exact g.1 (.inr List.mem_cons_self)
                · rw [List.mem_singleton.mp hc] at hb
                  exact hO1 (by rw [← e5]; exact mem_flat_at ej hb)
                · rcases z with z | z
                  · exact I1.nz a ha z
                  · rw [List.mem_singleton.mp z] at ha; exact hO1 ha
                · rcases z with z | z
                  · exact (I1.zt a z).imp fun o e => kD a o e
                  · rw [List.mem_singleton.mp z]; exact ⟨_, upd_same⟩
              · rw [List.mem_singleton.mp ha]; exact hZ
              · obtain ⟨e2, n2, _⟩ := st1.keep a o n e
                refine ⟨kD a o e2, n2, fun z => ?_⟩
                rw [List.mem_singleton.mp z, hD] at e2; cases e2
              · refine L.keep s1 (O := []) (fun _ z => nomatch z) (fun _ _ z => nomatch z) (fun a o _ e => kD a o e) fun a o g e => ⟨fun z => ?_, g.2⟩
                rcases z with z | z
                · exact g.1 z
                · rw [List.mem_singleton.mp z, hD] at e; cases e
              · -- a turn
                rintro i x H2 H3 hi ⟨e2, ms, q2, r2, l2, ⟨acc0, hacc, hal⟩, er2, em1, em2, em3⟩ y
                obtain ⟨O2, acc, F, I2, hD2, rm, nd, nD, nz, st, s2, hlen2⟩ := l2.ex
                obtain ⟨gr, rf⟩ := y _ ds[i] (List.getElem?_eq_getElem hi) s2
                have I3 := I2.grow gr
                have st3 : Step O2 H2 O2 [] H3 := ⟨fun a o n e => ⟨gr a o e, n, fun z => nomatch z⟩⟩
                rw [List.drop_eq_getElem_cons hi] at er2
                unfold runC at er2
                refine ⟨Zp Z (D :: F), O2, e2, ds[i], I3, rf, ?_⟩
                cases ep : p ds[i] e2 with
                | none => simp only [ep] at er2; cases er2
                | some e4 =>
                  simp only [ep] at er2
                  intro σ4 H4 p4 qu4
                  have qu4 := qu4 rfl
                  obtain ⟨O4, I4, st4⟩ := p4.ex
                  have hw : L2.wipe σ4 vs = L2.wipe σ vs := wipe_held p4.io
                  refine ⟨hw, Zp Z (D :: F), O4, e4, I4, ?_⟩
                  have st34 : Step O2 H2 O4 [] H4 := st3.tr0 st4
                  have q34 : Quiet H2 H4 := fun a o e => qu4 a o (gr a o e)
                  have eacc : acc0 = acc := by rw [hD2] at hacc; cases hacc; rfl
                  subst eacc
                  have sz : SZ = 16777216 := rfl
                  have omD2 : OM H2 (D :: O2) := fun b hb => by
                    rcases List.mem_cons.mp hb with z | z
                    · rw [z, hD2]; exact ⟨fun xs z => (by cases z), fun o u z => (by cases z)⟩
                    · exact I2.om b z
                  cases et : t e4 with
                  | stuck => simp only [et] at er2; cases er2
                  | exn c e5 => simp only [et] at er2; cases er2
                  | ok xt e5 q5 =>
                    simp only [et] at er2
                    split at er2
                    · rename_i b e5' q5' heq
                      cases heq
                      refine ⟨b, rfl, fun H5 p5 => ?_⟩
                      obtain ⟨O5, I5, st5⟩ := p5.to
                      have qu5 : q5 ≠ .l → Quiet H4 H5 := by obtain ⟨_, _, _, _, _, _, _, qu, _⟩ := p5.ex; exact qu
                      have st25 : Step O2 H2 O5 [] H5 := st34.tr0 st5
                      cases b with
                      | false =>
                        simp only [] at er2
                        obtain ⟨r3, er3, rfl⟩ := Option.map_eq_some_iff.mp er2
                        obtain ⟨hD5, O6, I6, rm6, st6, k6⟩ := Lc.same (vs := vs) I2 hD2 rm nD nz st st25 I5
                        rw [hw] at I6
                        refine iteF ⟨_, ms, q2.j q5, r3, ⟨⟨O6, acc0, F, I6, hD5, rm6, nd, nD, nz, st6, ?_, by omega⟩, wipeE_empty _ _, fun z => ⟨fun a o e => qu5 (qj_l z).2 a o (q34 a o ((l2.qu (qj_l z).1).1 a o e)), (l2.qu (qj_l z).1).2⟩⟩, ⟨acc0, hD5, hal⟩, er3, em1, em2, ?_⟩
                        · refine L.keep s2 omD2 (fun a g hb => ?_) (fun a o n e => (k6 a o (fun z => n (List.mem_cons_of_mem _ z)) e).1) fun a o g e => ⟨g.1, (k6 a o g.2 e).2⟩
                          rcases List.mem_cons.mp hb with z | z
                          · exact g.1 (.inr (by rw [z]; exact List.mem_cons_self))
                          · exact g.2 z
                        · rw [← em3]; exact (ql_assoc _ _ _)
                      | true =>
                        simp only [] at er2
                        refine iteT ⟨Zp Z (D :: F), O5, e5, I5, ?_⟩
                        cases ef : f e5 with
                        | stuck => simp only [ef] at er2; cases er2
                        | exn c e6 => simp only [ef] at er2; cases er2
                        | ok xf e6 q6 =>
                          simp only [ef] at er2
                          cases xf with
                          | vw m => cases er2
                          | own m =>
                            simp only [] at er2
                            obtain ⟨r3, er3, rfl⟩ := Option.map_eq_some_iff.mp er2
                            intro v H6 p6
                            have qu6 : q6 ≠ .l → Quiet H5 H6 := by obtain ⟨_, _, _, _, _, _, _, qu, _⟩ := p6.ex; exact qu
                            obtain ⟨hD6, O7, F2, I7, rm7, nd7, nD7, nz7, st7, k7⟩ := Lc.add (vs := vs) I2 hD2 rm nd nD nz st st25 p6
                            rw [hw] at I7
                            refine ⟨acc0, hD6, by rw [sizeLine_eq]; omega, _, ms ++ [m], q2.j (q5.j q6), r3, ⟨⟨O7, acc0 ++ [v], F ++ F2, I7, upd_same, rm7, nd7, nD7, nz7, st7, ?_, by simp; omega⟩, wipeE_empty _ _, fun z => ⟨fun a o e => ?_, (l2.qu (qj_l z).1).2⟩⟩, ⟨_, upd_same, by simp [hal]⟩, er3, by rw [← em1]; simp, em2, ?_⟩
                            · refine L.keep s2 omD2 (fun a g hb => ?_) (fun a o n e => (k7 a o (fun z => n (List.mem_cons_of_mem _ z)) (fun z => n (by rw [z]; exact List.mem_cons_self)) e).1) fun a o g e => ?_
                              · rcases List.mem_cons.mp hb with z | z
                                · exact g.1 (.inr (by rw [z]; exact List.mem_cons_self))
                                · exact g.2 z
                              · have ne : a ≠ D := fun z => g.1 (.inr (by rw [z]; exact List.mem_cons_self))
                                obtain ⟨_, n1, n2⟩ := k7 a o g.2 ne e
                                refine ⟨fun z => ?_, n1⟩
                                rcases z with z | z
                                · exact g.1 (.inl z)
                                · rcases List.mem_cons.mp z with z | z
                                  · exact ne z
                                  · rcases List.mem_append.mp z with z | z
                                    · exact g.1 (.inr (List.mem_cons_of_mem _ z))
                                    · exact n2 z
                            · have hq := qj_l z
                              have hq2 := qj_l hq.2
                              have ne : a ≠ D := fun w => by rw [w, (l2.qu hq.1).2] at e; cases e
                              rw [upd_ne ne]
                              exact qu6 hq2.2 a o (qu5 hq2.1 a o (q34 a o ((l2.qu hq.1).1 a o e)))
                            · rw [← em3]; exact (ql_assoc _ _ _)
                    · cases er2
              · rintro H2 ⟨e2, ms, q2, r2, l2, _, er2, em1, em2, em3⟩
                obtain ⟨O2, acc, F, I2, hD2, rm, nd, nD, nz, st, s2, hlen2⟩ := l2.ex
                rw [List.drop_length] at er2
                cases er2
                rw [List.append_nil] at em1
                subst em1
                have em2 : e2 = r.2.1 := em2
                have em3 : q2.j .p = q.j r.2.2 := em3
                subst em2
                subst hS
                obtain ⟨O3, I3, sub3⟩ := I2.rest l2.em em s2.2
                refine h _ H2 ⟨O3, D :: F, I3, ?_, List.nodup_cons.mpr ⟨nD, nd⟩, nz, ⟨fun a o n e => let ⟨e2, n2, f2⟩ := st.keep a o n e; ⟨e2, fun z => n2 (sub3 a z), f2⟩⟩, fun z => (l2.qu fun w => z ?_).1, fun z => (qn_p z).elim⟩
                · have r9 : RMs K H2 (fun a => ¬ Z a ∧ a ∉ O3 ∧ a ∉ D :: F) acc r.1 F := rm.imp fun a g => ⟨g.1, fun z => g.2.1 (sub3 a z), g.2.2⟩
                  simpa using RVs.own (F := D :: F) (RM.lst hD2 r9) .nil
                · rw [← em3, w]; rfl
          · simp only [if_neg em] at h
end
end Q

set_option Elab.async false
set_option linter.all false
set_option maxRecDepth 100000
set_option maxHeartbeats 4000000
/-! Comprehensions as expressions; what is written into lists of names. -/
namespace Q
open PySem PySem.Spec PyProof.Rows L2

abbrev ixs (own : List (Str × Nat)) : List Nat := own.map (·.2)
abbrev offs (own : List (Str × Nat)) : Nat → Bool := fun i => !(ixs own).contains i
abbrev W0 : WX := fun _ _ _ _ => False
def STs (X : Cx) (t : Ev → Res) (ifs : List Expr) : Prop := PTs X ifs (TUT X.K X.mg W0 t)
theorem PTs.imp {X : Cx} {e : List Expr} {t t' : TT} (h : PTs X e t) (i : ∀ σ H Q, t' σ H Q → t σ H Q) : PTs X e t' := ⟨fun pins s σ H Q I q => h.run pins s σ H Q I (i σ H Q q)⟩
theorem sts_nil {X : Cx} : STs X (dLit (.bool true)) [] := PTs.imp pts_nil fun σ H Q ⟨Z, O, env, I, b, eb, k⟩ => by
  cases eb
  exact k H (PostL.nil I)
theorem sts_one {X : Cx} {t : Ev → Res} {c : Expr} (h : ST X t c) : STs X t [c] := pts_one (h _ takes0)
section
variable {X : Cx} {io : Nat → Bool} {f g t src : Ev → Res} {p : Tg} {elt tg iter e : Expr} {ifs : List Expr} {scope : Scope} {own : List (Str × Nat)} {pos spos : Pos}
theorem se_lc (hc : X.calm = true) (hN : X.N.Nodup) (hi : SIT X tg src iter) (ok : BlkOk X.N X.env.scope scope own)
    (hg : ∀ (s : Shared) (H : Hp) (C : Addr) (cl : List (Str × Addr)) (fp : List Addr), SG (X.blk s H scope (compEnvC scope cl C X.env) fp) (offs own) true p tg)
    (ht : ∀ (s : Shared) (H : Hp) (C : Addr) (cl : List (Str × Addr)) (fp : List Addr), STs (X.blk s H scope (compEnvC scope cl C X.env) fp) t ifs)
    (he : ∀ (s : Shared) (H : Hp) (C : Addr) (cl : List (Str × Addr)) (fp : List Addr), SE (X.blk s H scope (compEnvC scope cl C X.env) fp) f elt) (hs : ∀ x, foldedSetIterable iter X.env x = pure x := by intro _; rfl) :
    SE X (dLc p src t f (ixs own)) (.ListComp elt [⟨tg, iter, ifs, 0⟩] scope pos) := fun W tk =>
  PE.imp (pe_lc (g := TUG X.K (offs own) true p) (tt := TUT X.K X.mg W0 t) (te := TU X.K X.mg W0 f) hc hN (hi W tk) ok hg ht (fun s H C cl fp => he s H C cl fp _ takes0) hs) fun σ H Q h => tu_lc h
theorem ss_setLc {i : Nat} {y : Str} {py : Pos} (hc : X.calm = true) (hN : X.N.Nodup) (hy : X.N[i]? = some y) (hyl : X.env.scope.names.lookup y = some .local)
    (hsw : swapsWith (.ListComp elt [⟨tg, iter, ifs, 0⟩] scope pos) (some (.Name y py)) spos.line X.env = pure true) (hi : SIT X tg src iter) (ok : BlkOk X.N X.env.scope scope own)
    (hg : ∀ (s : Shared) (H : Hp) (C : Addr) (cl : List (Str × Addr)) (fp : List Addr), SG (X.blk s H scope (compEnvC scope cl C X.env) fp) (offs own) true p tg)
    (ht : ∀ (s : Shared) (H : Hp) (C : Addr) (cl : List (Str × Addr)) (fp : List Addr), STs (X.blk s H scope (compEnvC scope cl C X.env) fp) t ifs)
    (he : ∀ (s : Shared) (H : Hp) (C : Addr) (cl : List (Str × Addr)) (fp : List Addr), SE (X.blk s H scope (compEnvC scope cl C X.env) fp) f elt) (hio : io i = false := by rfl) (hs : ∀ x, foldedSetIterable iter X.env x = pure x := by intro _; rfl) :
    SS X io (dSet i (dLc p src t f (ixs own))) (.Assign [.Name y py] (.ListComp elt [⟨tg, iter, ifs, 0⟩] scope pos) spos) := fun W tk =>
  PS.imp (ps_setLc (g := TUG X.K (offs own) true p) (tt := TUT X.K X.mg W0 t) (te := TU X.K X.mg W0 f) hc hN hy hyl hsw (hi W tk) ok hg ht (fun s H C cl fp => he s H C cl fp _ takes0) hs) fun D σ H ⟨Z, O, env, I, h⟩ => by
    refine tu_lc ⟨Z, O, env, I, ?_⟩
    unfold dSet at h
    cases ef : dLc p src t f (ixs own) env with
    | stuck => rw [ef] at h; exact h
    | exn c e1 => rw [ef] at h; exact EndS.exn h
    | ok y e1 q =>
      rw [ef] at h
      cases y with
      | vw m => exact h.elim
      | own m =>
        intro v H' p
        simp only [put1] at h
        split at h
        · rename_i hl
          obtain ⟨O', F, I', r, nd, nz, st⟩ := p.own1
          obtain ⟨O2, I2, st2⟩ := I'.put hl r nd nz st
          exact h _ _ ⟨⟨O2, I2, st2⟩, Held.set hio⟩
        · exact h.elim
/-- .. and the new list is never changed any more: frozen -/
def dSetF (i : Nat) (f : Ev → Res) : Ev → Out := dSet i (dFr f)
theorem ss_setLcF {i : Nat} {y : Str} {py : Pos} (hc : X.calm = true) (hN : X.N.Nodup) (hy : X.N[i]? = some y) (hyl : X.env.scope.names.lookup y = some .local)
    (hsw : swapsWith (.ListComp elt [⟨tg, iter, ifs, 0⟩] scope pos) (some (.Name y py)) spos.line X.env = pure true) (hi : SIT X tg src iter) (ok : BlkOk X.N X.env.scope scope own)
    (hg : ∀ (s : Shared) (H : Hp) (C : Addr) (cl : List (Str × Addr)) (fp : List Addr), SG (X.blk s H scope (compEnvC scope cl C X.env) fp) (offs own) true p tg)
    (ht : ∀ (s : Shared) (H : Hp) (C : Addr) (cl : List (Str × Addr)) (fp : List Addr), STs (X.blk s H scope (compEnvC scope cl C X.env) fp) t ifs)
    (he : ∀ (s : Shared) (H : Hp) (C : Addr) (cl : List (Str × Addr)) (fp : List Addr), SE (X.blk s H scope (compEnvC scope cl C X.env) fp) f elt) (hio : io i = false := by rfl) (hs : ∀ x, foldedSetIterable iter X.env x = pure x := by intro _; rfl) :
    SS X io (dSetF i (dLc p src t f (ixs own))) (.Assign [.Name y py] (.ListComp elt [⟨tg, iter, ifs, 0⟩] scope pos) spos) := fun W tk =>
  PS.imp (ps_setLc (g := TUG X.K (offs own) true p) (tt := TUT X.K X.mg W0 t) (te := TU X.K X.mg W0 f) hc hN hy hyl hsw (hi W tk) ok hg ht (fun s H C cl fp => he s H C cl fp _ takes0) hs) fun D σ H ⟨Z, O, env, I, h⟩ => by
    refine tu_lc ⟨Z, O, env, I, ?_⟩
    unfold dSetF dSet dFr at h
    cases ef : dLc p src t f (ixs own) env with
    | stuck => rw [ef] at h; exact h
    | exn c e1 => rw [ef] at h; exact EndS.exn h
    | ok y e1 q =>
      rw [ef] at h
      cases y with
      | vw m => exact h.elim
      | own m =>
        simp only [] at h
        intro v H' p
        cases ed : frz m with
        | none => simp only [ed] at h; exact h.elim
        | some d =>
          simp only [ed, put1] at h
          split at h
          · rename_i hl
            obtain ⟨O', F, I', r, nd, nz, st⟩ := (p.fr ed).own1
            obtain ⟨O2, I2, st2⟩ := I'.put hl r nd nz st
            exact h _ _ ⟨⟨O2, I2, st2⟩, Held.set hio⟩
          · exact h.elim
end

/-! ### x[i] = d, x[i][j] = d -/
section
variable {K : PySem.W.Frag} {mg : Str → Option Value} {H H' H0 H1 H2 : Hp} {G G' Gv Gv' : Addr → Prop} {O O' O0 O1 O2 F F' F1 F2 : List Addr} {Z : Addr → Prop} {env env1 env2 : Ev} {σ σ1 σ' : L2.St} {vs : List Nat}
theorem RMs.setF {ws : List V} {ms : List M} {v : V} {d : PyData} {j : Nat} (r : RMs K H G ws ms F) (nd : F.Nodup) (h : RF K H G v d) : ∃ F2, RMs K H G (ws.set j v) (ms.set j (.fz d)) F2 ∧ (∀ b ∈ F2, b ∈ F) ∧ F2.Nodup := by
  obtain ⟨F2, r2, s2, d2⟩ := r.setAt (j := j) (.fz h)
  exact ⟨F2, r2, (fun b hb => (s2 b hb).elim id fun z => nomatch z), d2 (by simpa using nd)⟩
/-- the item at j becomes d -/
def setD (k : Int) (d : PyData) : List M → Option (List M) := fun ms => (ixN ms.length k).map fun j => ms.set j (.fz d)
/-- a value that its evaluation leaves as an int, and what is behind it -/
def intE : Res → Option (Int × Ev × Ql)
  | .ok (.own (.fz (.int k))) e q => some (k, e, q)
  | _ => none
theorem intE_some {r : Res} {k : Int} {e : Ev} {q : Ql} (h : intE r = some (k, e, q)) : r = .ok (.own (.fz (.int k))) e q := by
  unfold intE at h
  split at h
  · cases h; rfl
  · cases h
def held1 (e : Ev) (s : Nat) : Bool := match e[s]? with
  | some (some _) => true
  | _ => false
theorem SI.val {s : Nat} (I : SI K Z O env σ H) (h : held1 env s = true) : ∃ v, σ[s]? = some (some v) := by
  unfold held1 at h
  split at h
  · rename_i m e
    obtain ⟨v, _, h1, _⟩ := I.get e
    exact ⟨v, h1⟩
  · cases h
/-- write at a path of the name's tree -/
def wrAt (s : Nat) (p : List Nat) (f : List M → Option (List M)) (e : Ev) : Option Ev := match e[s]? with
  | some (some m) => (M.wr p f m).map fun m' => e.set s (some m')
  | _ => none
def gPut (s : Nat) (f : Ev → Res) : Tg := fun d e => if held1 e s = true then (match intE (f e) with
  | some (k, e1, _) => wrAt s [] (setD k d) e1
  | none => none) else none
theorem wrAt_some {s : Nat} {p : List Nat} {f : List M → Option (List M)} {e e' : Ev} (h : wrAt s p f e = some e') : ∃ m m', e[s]? = some (some m) ∧ M.wr p f m = some m' ∧ e' = e.set s (some m') := by
  unfold wrAt at h
  split at h
  · rename_i m em
    obtain ⟨m', h1, rfl⟩ := Option.map_eq_some_iff.mp h
    exact ⟨m, m', em, h1, rfl⟩
  · cases h
/-- .. the item k of the list becomes the datum d that v says -/
theorem SI.put_at {s : Nat} {p : List Nat} {k : Int} {d : PyData} {v : V} {e' : Ev} (I : SI K Z O env σ H) (r : RF K H (fun a => ¬ Z a ∧ a ∉ O) v d) (h : wrAt s p (setD k d) env = some e') :
    ∃ w a xs j, σ[s]? = some (some w) ∧ Way K H w p a ∧ H a = some (.lst xs) ∧ ixN xs.length k = some j ∧ ∃ O2, SI K Z O2 e' σ (upd H a (.lst (xs.set j v))) ∧ Step O H O2 [] (upd H a (.lst (xs.set j v))) := by
  obtain ⟨m, m', em, ew, rfl⟩ := wrAt_some h
  obtain ⟨w, a, xs, ms, Fr, ms', h1, wy, ha, aO, rms, ef, frO, nr, go⟩ := SI.wr (F := []) (by rw [Zp_nil]; exact I) em ew
  unfold setD at ef
  obtain ⟨j, hj, rfl⟩ := Option.map_eq_some_iff.mp ef
  obtain ⟨F2, r2, s2, d2⟩ := RMs.setF (j := j) (rms.imp (G' := fun a => ¬ Z a ∧ a ∉ O ∧ a ∉ ([] : List Addr)) fun a g => ⟨fun z => g.1 (.inl z), g.2, fun z => nomatch z⟩) nr (r.imp fun a g => ⟨g.1, g.2, fun z => nomatch z⟩)
  obtain ⟨O2, I2, st2⟩ := go (O0 := O) (H0 := H) r2 d2 (fun b hb => .inl (s2 b hb)) (fun _ z => nomatch z) Step.refl
  exact ⟨w, a, xs, j, h1, wy, ha, by rw [rms.length]; exact hj, O2, I2, st2⟩
end
section
variable {X : Cx} {io : Nat → Bool} {f g t src : Ev → Res} {p : Tg} {e i j : Expr} {pos px p2 : Pos}
theorem sg_put {s : Nat} {x : Str} (hN : X.N[s]? = some x) (hv : Vis X.env.scope x) (hi : SE X f i) (hd : (x == ("__debug__" : Str)) = false := by decide) (hcd : (x == ("__classdict__" : Str)) = false := by decide)
    (ha : ∀ v, assign (.Subscript (.Name x px) i pos) X.env v = (do
      let ov ← holding [v] (eval (.Name x px) X.env)
      let iv ← holding [v, ov] (eval i X.env)
      standAt pos
      holding [v, ov, iv] (setItem ov iv v)
      release [v, ov, iv] []) := by intro _; rfl) : SG X io false (gPut s f) (.Subscript (.Name x px) i pos) := by
  refine PG.imp (pg_sub (pe_var hN hv hd hcd) (hi W0 takes0) set_list ha) fun v σ H Q ⟨Z, O, env, d, I, r, h⟩ => ?_
  unfold gPut at h
  split at h
  · rename_i e' he
    split at he
    · rename_i hh
      obtain ⟨w, hw⟩ := I.val hh
      refine ⟨w, hw, Z, O, env, I, ?_⟩
      split at he
      · rename_i k e1 q1 hf
        rw [intE_some hf]
        intro iv H1 p1
        obtain ⟨O1, I1, r1, st1, _⟩ := p1.fz1
        cases r1.intI
        obtain ⟨w', a, xs, j, h1, wy, ha2, hj, O2, I2, st2⟩ := SI.put_at I1 (r.after I st1) he
        rw [hw] at h1; cases h1
        cases wy
        exact ⟨a, xs, k, j, rfl, rfl, ha2, hj, h _ _ ⟨⟨O2, I2, st1.tr0 st2⟩, Held.refl⟩ fun z => by cases z⟩
      · cases he
    · cases he
  · exact h.elim
def Ql.isL : Ql → Bool
  | .l => true
  | _ => false
theorem Ql.nl {q : Ql} (h : q.isL ≠ true) : q ≠ .l := fun e => h (by rw [e]; rfl)
/-- x[i][j] = d -/
def gPut2 (s : Nat) (f g : Ev → Res) : Tg := fun d e => if held1 e s = true then (match intE (f e) with
  | some (k, e1, _) => (match e1[s]? with
    | some (some (.lst ms)) => (match ixN ms.length k with
      | some n => (match intE (g e1) with
        | some (l, e2, q2) => if q2.isL = true then none else wrAt s [n] (setD l d) e2
        | none => none)
      | none => none)
    | _ => none)
  | none => none) else none
theorem sg_put2 {s : Nat} {x : Str} (hN : X.N[s]? = some x) (hv : Vis X.env.scope x) (hi : SE X f i) (hs : PlainIx i) (hj : SE X g j) (hd : (x == ("__debug__" : Str)) = false := by decide) (hcd : (x == ("__classdict__" : Str)) = false := by decide)
    (ha : ∀ v, assign (.Subscript (.Subscript (.Name x px) i p2) j pos) X.env v = (do
      let ov ← holding [v] (eval (.Subscript (.Name x px) i p2) X.env)
      let iv ← holding [v, ov] (eval j X.env)
      standAt pos
      holding [v, ov, iv] (setItem ov iv v)
      release [v, ov, iv] []) := by intro _; rfl) : SG X io false (gPut2 s f g) (.Subscript (.Subscript (.Name x px) i p2) j pos) := by
  refine PG.imp (pg_sub (pe_ix ix_seq (pe_var hN hv hd hcd) (hi W0 takes0) hs) (hj W0 takes0) set_list ha) fun v σ H Q ⟨Z, O, env, d, I, r, h⟩ => ?_
  unfold gPut2 at h
  split at h
  · rename_i e' he
    split at he
    · rename_i hh
      obtain ⟨w, hw⟩ := I.val hh
      refine ⟨w, hw, Z, O, env, I, ?_⟩
      split at he
      · rename_i k e1 q1 hf
        rw [intE_some hf]
        intro iv H1 p1
        obtain ⟨O1, I1, r1, st1, _⟩ := p1.fz1
        cases r1.intI
        split at he
        · rename_i ms em
          split at he
          · rename_i n hn
            split at he
            · rename_i l e2 q2 hg
              split at he
              · cases he
              · rename_i hq
                -- the inner list's address
                obtain ⟨w', F1, hw', rm1, _⟩ := I1.get em
                rw [hw] at hw'; cases hw'
                cases rm1 with
                | lst ha1 rms1 =>
                  rename_i a1 xs1 F0 _
                  have hlt : n < xs1.length := by
                    rw [rms1.length]
                    exact (ixN_seq hn).2.1
                  refine .inl ⟨a1, xs1, k, xs1[n], rfl, rfl, .inl (.inl ha1), ?_, ?_⟩
                  · unfold atI
                    rw [rms1.length, hn]
                    exact List.getElem?_eq_getElem hlt
                  refine ⟨Z, O1, e1, I1, ?_⟩
                  rw [intE_some hg]
                  intro jv H2 p2
                  obtain ⟨O2, I2, r2, st2, qu2⟩ := p2.fz1
                  cases r2.intI
                  have ha2 := qu2 (Ql.nl hq) _ _ ha1
                  obtain ⟨w', a, xs, j, h1, wy, ha3, hj, O3, I3, st3⟩ := SI.put_at I2 ((r.after I st1).after I1 st2) he
                  rw [hw] at h1; cases h1
                  cases wy with
                  | lst hb hx wy =>
                    rw [ha2] at hb; cases hb
                    cases wy with
                    | nil =>
                      rw [List.getElem?_eq_getElem hlt] at hx
                      exact ⟨a, xs, l, j, Option.some.inj hx, rfl, ha3, hj, h _ _ ⟨⟨O3, I3, (st1.tr0 st2).tr0 st3⟩, Held.refl⟩ fun z => by cases z⟩
            · cases he
          · cases he
        · cases he
      · cases he
    · cases he
  · exact h.elim
end
end Q

set_option Elab.async false
set_option linter.all false
set_option maxRecDepth 100000
set_option maxHeartbeats 4000000
/-! Functions and calls. -/
namespace Q
open PySem PySem.Spec PyProof.Rows L2

/-! ### what a def promises -/
def startE (n : Nat) (ms : List M) : Ev := ms.map some ++ List.replicate (n - ms.length) none
def endF (Q : VK) : Ends := { nx := fun _ H' => Q .non H', rt := Q }
def WF (E : XK) : WX := fun cls d _ H => E cls d H
/-- n: the number of names; k: the number of parameters; io: the parameters that are lent -/
def SpQ (K : PySem.W.Frag) (mg : Str → Option Value) (N : List Str) (io : Nat → Bool) (k : Nat) (den : Ev → Out) : Sp := fun vs H Q E => vs.length = k ∧ TUS K mg (WF E) io den (endF Q) (L2.start N vs) H
abbrev FnQ (P : Program) (w : World) (K : PySem.W.Frag) (mg : Str → Option Value) (base : Heap) (j : Nat) (f : Addr) (fd : FuncData) (ps N : List Str) (io : Nat → Bool) (den : Ev → Out) : Prop := FnOk P w K mg base (L2.CX P w) j f fd ps (SpQ K mg N io ps.length den)
theorem fn_mk {P : Program} {w : World} {K : PySem.W.Frag} {mg : Str → Option Value} {base : Heap} {x qual : Str} {st : Stmt} {f : Addr} {fd : FuncData} {N ps : List Str} {k : Nat} {io : Nat → Bool} {den : Ev → Out} (F : Fun K x qual st f fd) (S : FnScope N ps (defScope st))
    (body : ∀ (cdv : Value) (A : Around) (outer : List Env) (s : Shared) (H : Hp) (E : XK), Room k (A.deeper (envOfC qual (defScope st) s.heap.objs.size f cdv)) → SSs (cxOf (L2.CX P w) P w K mg base N qual (defScope st) f cdv A outer s H E) io den (defBody st)) :
    FnQ P w K mg base (k + 1) f fd ps N io den :=
  F.okX S (fun _ _ _ _ h => h.1) fun cdv A outer s H vs Q E hr hsp => ⟨_, body cdv A outer s H E hr (WF E) (takes_of rfl rfl rfl rfl), hsp.2⟩
theorem FnQ.mono {P : Program} {w : World} {K : PySem.W.Frag} {mg : Str → Option Value} {base : Heap} {f : Addr} {fd : FuncData} {N ps : List Str} {i j : Nat} {io : Nat → Bool} {den : Ev → Out} (F : FnQ P w K mg base i f fd ps N io den) (h : i ≤ j) : FnQ P w K mg base j f fd ps N io den := FnOk.mono F h

/-! ### the entry -/
section
variable {K : PySem.W.Frag} {mg : Str → Option Value} {H H' H0 H1 H2 : Hp} {G G' Gv Gv' : Addr → Prop} {O O' O0 O1 O2 F F' F1 F2 : List Addr} {Z : Addr → Prop} {env env1 env2 : Ev} {σ σ1 σ' : L2.St}
theorem slots_repl : ∀ n : Nat, Slots K H G (List.replicate n none) (List.replicate n none) (List.replicate n [])
  | 0 => .nil
  | n + 1 => .non (slots_repl n)
theorem slots_start : ∀ {vs : List V} {ms : List M} {F : List Addr} (n : Nat), RMs K H G vs ms F → ∃ Fs, Slots K H G (ms.map some ++ List.replicate n none) (vs.map some ++ List.replicate n none) Fs ∧ Fs.flatten = F
  | _, _, _, n, .nil => ⟨List.replicate n [], slots_repl n, by simp⟩
  | _, _, _, n, .cons h r => by
    obtain ⟨Fs, s, e⟩ := slots_start n r
    exact ⟨_ :: Fs, .som h s, by rw [List.flatten_cons, e]⟩
theorem si_start {N : List Str} {vs : List V} {ms : List M} (r : RMs K H (fun a => ¬ Z a ∧ a ∉ F) vs ms F) (nd : F.Nodup) (nz : ∀ a ∈ F, ¬ Z a) (zt : ∀ a, Z a → ∃ o, H a = some o) : SI K Z F (startE N.length ms) (L2.start N vs) H := by
  obtain ⟨Fs, s, e⟩ := slots_start (N.length - ms.length) r
  refine ⟨⟨Fs, ?_, e⟩, nd, nz, zt⟩
  unfold startE L2.start
  rw [show vs.length = ms.length from r.length]
  exact s
mutual
/-- no list within what is frozen -/
def noL : PyData → Bool
  | .list _ => false
  | .tuple ds => noLs ds
  | .dict _ => false
  | _ => true
def noLs : List PyData → Bool
  | [] => true
  | d :: ds => noL d && noLs ds
end
mutual
def noLM : M → Bool
  | .fz d => noL d
  | .lst ms => noLMs ms
  | .tup ms => noLMs ms
  | .dK _ ms => noLMs ms
  | .dT _ ms => noLMs ms
def noLMs : List M → Bool
  | [] => true
  | m :: ms => noLM m && noLMs ms
end
mutual
theorem RF.noG : ∀ {v : V} {d : PyData}, RF K H G v d → noL d = true → RF K H G' v d
  | _, _, .non, _ => .non
  | _, _, .bl b, _ => .bl b
  | _, _, .int b, _ => .int b
  | _, _, .str b, _ => .str b
  | _, _, .lst _ _ _, h => by unfold noL at h; cases h
  | _, _, .tup h r, n => .tup h (RFs.noG r (by unfold noL at n; exact n))
theorem RFs.noG : ∀ {vs : List V} {ds : List PyData}, RFs K H G vs ds → noLs ds = true → RFs K H G' vs ds
  | _, _, .nil, _ => .nil
  | _, _, .cons h r, n => by
    unfold noLs at n
    rw [Bool.and_eq_true] at n
    exact .cons (RF.noG h n.1) (RFs.noG r n.2)
end
mutual
theorem RM.noG : ∀ {v : V} {m : M} {F : List Addr}, RM K H G v m F → noLM m = true → RM K H G' v m F
  | _, _, _, .fz h, n => .fz (h.noG (by unfold noLM at n; exact n))
  | _, _, _, .lst h r, n => .lst h (RMs.noG r (by unfold noLM at n; exact n))
  | _, _, _, .tup h r, n => .tup h (RMs.noG r (by unfold noLM at n; exact n))
  | _, _, _, .dK h r, n => .dK h (RMs.noG r (by unfold noLM at n; exact n))
  | _, _, _, .dT h r, n => .dT h (RMs.noG r (by unfold noLM at n; exact n))
theorem RMs.noG : ∀ {vs : List V} {ms : List M} {F : List Addr}, RMs K H G vs ms F → noLMs ms = true → RMs K H G' vs ms F
  | _, _, _, .nil, _ => .nil
  | _, _, _, .cons h r, n => by
    unfold noLMs at n
    rw [Bool.and_eq_true] at n
    exact .cons (RM.noG h n.1) (RMs.noG r n.2)
end
theorem Slots.stepA : ∀ {env : Ev} {σ : L2.St} {Fs : List (List Addr)}, Slots K H G env σ Fs → OM H O → (∀ b, G b → b ∉ O) → (∀ b ∈ Fs.flatten, b ∉ O) → (∀ b o, b ∉ O → H b = some o → H' b = some o) → (∀ b o, G b → H b = some o → G' b) → Slots K H' G' env σ Fs
  | _, _, _, .nil, _, _, _, _, _ => .nil
  | _, _, _, .non r, om, go, ff, fr, gg => .non (Slots.stepA r om go (fun b hb => ff b (by simpa using hb)) fr gg)
  | _, _, _, .som h r, om, go, ff, fr, gg => .som (h.step om go (fun b hb => ff b (by rw [List.flatten_cons]; exact List.mem_append_left _ hb)) fr gg) (Slots.stepA r om go (fun b hb => ff b (by rw [List.flatten_cons]; exact List.mem_append_right _ hb)) fr gg)
/-- the caller's slots behind a call that had F -/
theorem SI.call (I : SI K (Zp Z F) O1 env1 σ H1) (om : OM H1 F) (nz : ∀ a ∈ F, ¬ Z a) (st : Step F H1 O2 F2 H2) (al : ∀ a ∈ F2, ∃ o, H2 a = some o) : SI K (Zp Z F2) O1 env1 σ H2 := by
  have ow := I.owd
  obtain ⟨Fs, s, rfl⟩ := I.sl
  have nF : ∀ a ∈ Fs.flatten, a ∉ F := fun a ha z => I.nz a ha (.inr z)
  refine ⟨⟨Fs, s.stepA om (fun b g hb => g.1 (.inr hb)) nF (fun b o n e => (st.keep b o n e).1) (fun b o g e => ⟨fun z => ?_, g.2⟩), rfl⟩, I.nd, fun a ha z => ?_, fun a z => ?_⟩
  · rcases z with z | z
    · exact g.1 (.inl z)
    · exact (st.keep b o (fun q => g.1 (.inr q)) e).2.2 z
  · rcases z with z | z
    · exact I.nz a ha (.inl z)
    · obtain ⟨o, e, _⟩ := ow a ha
      exact (st.keep a o (nF a ha) e).2.2 z
  · rcases z with z | z
    · obtain ⟨o, e⟩ := I.zt a (.inl z)
      exact ⟨o, (st.keep a o (fun q => nz a q z) e).1⟩
    · exact al a z
end
/-! ### calls -/
def anyV (xs : List Val) : Bool := xs.any Val.isV
def datas : List Val → Option (List PyData)
  | [] => some []
  | .own (.fz d) :: xs => (datas xs).map fun ds => d :: ds
  | .vw m :: xs => (frz m).bind fun d => (datas xs).map fun ds => d :: ds
  | _ => none
/-- the parameters' trees, and whether one of them is only looked at -/
def argMs (xs : List Val) : Option (List M × Bool) := match anyV xs with
  | true => (datas xs).map fun ds => (ds.map M.fz, true)
  | false => (owns xs).map fun ms => (ms, false)
def allFz (ms : List M) : Bool := (leaves ms).isSome
def retR (m : M) (env : Ev) (q : Ql) (v : Bool) : Res := match v with
  | true => if noLM m = true then .ok (.own m) env q else .stuck
  | false => .ok (.own m) env q
def qCall (ms : List M) (q : Ql) : Ql := match allFz ms with
  | true => q.n
  | false => .l
def dCall (n : Nat) (den : Ev → Out) (fs : List (Ev → Res)) : Ev → Res := fun env => match evs fs env with
  | .ok xs env1 q => (match argMs xs with
    | some (ms, v) => (match den (startE n ms) with
      | .ret m _ => retR m env1 (qCall ms q) v
      | .nx _ => .ok (.own (.fz .none)) env1 (qCall ms q)
      | .exn c _ => .exn c env1
      | _ => .stuck)
    | none => .stuck)
  | .exn c e => .exn c e
  | .stuck => .stuck
section
variable {K : PySem.W.Frag} {mg : Str → Option Value} {H H' H0 H1 H2 : Hp} {G G' Gv Gv' : Addr → Prop} {O O' O0 O1 O2 F F' F1 F2 : List Addr} {Z : Addr → Prop} {env env1 env2 : Ev} {σ σ1 σ' : L2.St}
theorem RVs.datas : ∀ {vs : List V} {xs : List Val} {F : List Addr} {ds : List PyData}, RVs K H G Gv vs xs F → Q.datas xs = some ds → (∀ a, G a → G' a) → (∀ a, Gv a → G' a) → RFs K H G' vs ds ∧ F = []
  | _, _, _, ds, .nil, e, _, _ => by unfold Q.datas at e; cases e; exact ⟨.nil, rfl⟩
  | _, _, _, ds, .own (m := m) h r, e, g, g' => by
    cases m with
    | fz d =>
      unfold Q.datas at e
      obtain ⟨ds', e1, rfl⟩ := Option.map_eq_some_iff.mp e
      obtain ⟨h1, rfl⟩ := h.fzD
      obtain ⟨h2, rfl⟩ := RVs.datas r e1 g g'
      exact ⟨.cons (h1.imp g) h2, rfl⟩
    | lst _ => unfold Q.datas at e; cases e
    | tup _ => unfold Q.datas at e; cases e
    | dK _ _ => unfold Q.datas at e; cases e
    | dT _ _ => unfold Q.datas at e; cases e
  | _, _, _, ds, .vw h hf r, e, g, g' => by
    unfold Q.datas at e
    obtain ⟨d, e1, e2⟩ := Option.bind_eq_some_iff.mp e
    obtain ⟨ds', e3, rfl⟩ := Option.map_eq_some_iff.mp e2
    obtain ⟨h2, rfl⟩ := RVs.datas r e3 g g'
    exact ⟨.cons (h.freeze e1 g fun a ha => g' a (hf a ha)) h2, rfl⟩
theorem allFz_nil {vs : List V} {ms : List M} (r : RMs K H G vs ms F) (h : allFz ms = true) : F = [] := by
  unfold allFz at h
  cases e : leaves ms with
  | none => rw [e] at h; cases h
  | some ds => exact (r.leaf e).2
theorem leaves_fz (ds : List PyData) : leaves (ds.map M.fz) = some ds := by
  induction ds with
  | nil => rfl
  | cons d ds ih => simp [leaves, ih]
theorem Step.quiet (st : Step [] H O F H') : Quiet H H' := fun a o e => (st.keep a o (fun z => nomatch z) e).1
/-- a call's end, at the caller -/
theorem call_post {q : Ql} {ms : List M} {m : M} {io : Nat → Bool} {τ τ' : L2.St} {e' : Ev} {v : V} {Z' : Addr → Prop} (I1 : SI K (Zp Z F) O1 env1 σ H1) (nz : ∀ a ∈ F, ¬ Z a) (st1 : Step O H O1 F H1) (qu : q ≠ .l → Quiet H H1) (om : OM H1 F) (aF : allFz ms = true → F = [])
    (p : PostR K Z' F io τ H1 m e' v τ' H2) (hZ : ∀ a, Z a → Z' a) (hg : ∀ (F2 O2 : List Addr), RM K H2 (fun a => ¬ Z' a ∧ a ∉ O2 ∧ a ∉ F2) v m F2 → RM K H2 (fun a => ¬ Z a ∧ a ∉ O1 ∧ a ∉ F2) v m F2) : Post K Z O env σ H v H2 (.own m) env1 (qCall ms q) := by
  obtain ⟨O2, F2, I2, rv, nd2, nz2, st2⟩ := p.ex
  have al : ∀ a ∈ F2, ∃ o, H2 a = some o := fun a ha => (rv.owd a ha).imp fun o e => e.1
  refine ⟨O1, F2, I1.call om nz st2 al, ?_, nd2, fun a ha z => nz2 a ha (hZ a z), ⟨fun a o n e => ?_⟩, fun z => ?_, fun z => ?_⟩
  · simpa using RVs.own (hg F2 O2 rv) .nil
  · obtain ⟨e1, n1, f1⟩ := st1.keep a o n e
    obtain ⟨e2, n2, f2⟩ := st2.keep a o f1 e1
    exact ⟨e2, n1, f2⟩
  · unfold qCall at z
    cases ea : allFz ms with
    | false => rw [ea] at z; exact absurd rfl z
    | true =>
      rw [ea] at z
      have hF := aF ea
      subst hF
      exact fun a o e => st2.quiet a o (qu (qn_l z) a o e)
  · unfold qCall at z
    cases ea : allFz ms with
    | false => rw [ea] at z; cases z
    | true => rw [ea] at z; exact (qn_p z).elim
/-- the callee's entry and end, no name lent -/
theorem call_go {N : List Str} {io : Nat → Bool} {den : Ev → Out} {fs : List (Ev → Res)} {Q : VK} {W : WX} (h : TU K mg W (dCall N.length den fs) σ H Q) :
    TUL K mg W (evs fs) σ H fun vs H1 => SpQ K mg N io fs.length den (vs ++ []) H1 Q (WE W σ) := by
  obtain ⟨Z, O, env, I, h⟩ := h
  refine ⟨Z, O, env, I, ?_⟩
  unfold dCall at h
  cases e : evs fs env with
  | stuck => rw [e] at h; exact h
  | exn c e1 => rw [e] at h; exact h
  | ok xs env1 q =>
    rw [e] at h
    simp only [] at h
    intro vs H1 p
    rw [List.append_nil]
    refine ⟨p.len.trans (evs_len e), ?_⟩
    obtain ⟨O1, F, I1, r1, nd, nz, st1, qu, _⟩ := p.ex
    cases em : argMs xs with
    | none => simp only [em] at h
    | some mv =>
      obtain ⟨ms, vw⟩ := mv
      simp only [em] at h
      -- what the callee is given
      obtain ⟨Z', hz, rm, nz', zt', hg⟩ : ∃ Z' : Addr → Prop, (∀ a, Z a → Z' a) ∧ RMs K H1 (fun a => ¬ Z' a ∧ a ∉ F) vs ms F ∧ (∀ a ∈ F, ¬ Z' a) ∧ (∀ a, Z' a → ∃ o, H1 a = some o) ∧
          ∀ (m : M) (v : V) (H2 : Hp) (F2 O2 : List Addr), (vw = true → noLM m = true) → RM K H2 (fun a => ¬ Z' a ∧ a ∉ O2 ∧ a ∉ F2) v m F2 → RM K H2 (fun a => ¬ Z a ∧ a ∉ O1 ∧ a ∉ F2) v m F2 := by
        unfold argMs at em
        cases ev : anyV xs with
        | true =>
          rw [ev] at em
          obtain ⟨ds, ed, e2⟩ := Option.map_eq_some_iff.mp em
          cases e2
          obtain ⟨rf, rfl⟩ := r1.datas (G' := fun a => ¬ Z a ∧ a ∉ ([] : List Addr)) ed (fun a g => ⟨g.1, fun z => nomatch z⟩) fun a g => ⟨g, fun z => nomatch z⟩
          exact ⟨Z, fun _ z => z, rf.tms, nz, fun a z => I1.zt a (.inl z), fun m v H2 F2 O2 nl r => r.noG (nl rfl)⟩
        | false =>
          rw [ev] at em
          obtain ⟨ms', ed, e2⟩ := Option.map_eq_some_iff.mp em
          cases e2
          refine ⟨fun a => Z a ∨ a ∈ O1, fun _ z => .inl z, (r1.ms ed).imp fun a g => ⟨fun z => z.elim g.1 g.2.1, g.2.2⟩, fun a ha z => ?_, fun a z => ?_, fun m v H2 F2 O2 _ r => r.imp fun a g => ⟨fun z => g.1 (.inl z), fun z => g.1 (.inr z), g.2.2⟩⟩
          · rcases z with z | z
            · exact nz a ha z
            · exact I1.nz a z (.inr ha)
          · rcases z with z | z
            · exact I1.zt a (.inl z)
            · obtain ⟨o, e, _⟩ := I1.owd a z
              exact ⟨o, e⟩
      have om : OM H1 F := OM.of rm.owd
      refine ⟨Z', F, startE N.length ms, si_start rm nd nz' zt', ?_⟩
      cases ed : den (startE N.length ms) with
      | stuck => simp only [ed] at h
      | brk _ => simp only [ed] at h
      | ct _ => simp only [ed] at h
      | ret m e' =>
        simp only [ed] at h
        intro v σ' H2 pr
        have fin : (vw = true → noLM m = true) → Post K Z O env σ H v H2 (.own m) env1 (qCall ms q) := fun nl => call_post I1 nz st1 qu om (allFz_nil rm) pr hz fun F2 O2 r => hg m v H2 F2 O2 nl r
        cases vw with
        | false => exact h v H2 (fin fun z => by cases z)
        | true =>
          simp only [retR] at h
          by_cases nl : noLM m = true
          · rw [if_pos nl] at h
            exact h v H2 (fin fun _ => nl)
          · rw [if_neg nl] at h
            exact h.elim
      | nx e' =>
        simp only [ed] at h
        intro σ' H2 ps
        obtain ⟨O2, I2, st2⟩ := ps.ex
        refine h _ H2 (call_post (m := .fz .none) (v := .non) (e' := e') (τ := L2.start N vs) (τ' := σ') I1 nz st1 qu om (allFz_nil rm) ⟨⟨O2, [], by rw [Zp_nil]; exact I2, .fz .non, List.Pairwise.nil, (fun _ z => nomatch z), st2⟩, ps.io⟩ hz fun F2 O2 r => ?_)
        cases r with
        | fz r => exact .fz .non
      | exn c e' =>
        simp only [ed] at h
        intro cls d σ' H2 px
        obtain ⟨O2, I2, st2⟩ := px.ex
        have I3 := I1.call om nz st2 (fun _ z => nomatch z)
        rw [Zp_nil] at I3
        exact h cls d H2 ⟨⟨O1, I3, ⟨fun a o n e => by
          obtain ⟨e1, n1, f1⟩ := st1.keep a o n e
          obtain ⟨e2, n2, f2⟩ := st2.keep a o f1 e1
          exact ⟨e2, n1, fun z => nomatch z⟩⟩⟩, px.er⟩
end
section
variable {X : Cx} {k : Nat} {f : Addr} {fd : FuncData} {ps N : List Str} {io : Nat → Bool} {den : Ev → Out} {x : Str} {p pos : Pos} {e : Expr} {es : List Expr} {fs : List (Ev → Res)}
theorem se_call (Fn : FnQ X.prog X.w X.K X.mg X.base k f fd ps N io den) (hr : Room k X.A) (hg : Gl X x) (hm : X.mg x = some (.ref f)) (hk : PySem.W.keepIn X.K (.ref f) = true) (hb : Binds X.K fd ps []) (ha : SA X (evs fs) (e :: es)) (hl : fs.length = ps.length := by rfl)
    (hdb : (x == ("__debug__" : Str)) = false := by decide) (he : starEach (e :: es) X.env = (false, eval e X.env) :: starEach es X.env := by rfl) (hpl : (backTo pos (starEach es X.env)).any (·.1) = false := by rfl) :
    SE X (dCall N.length den fs) (.Call (.Name x p) (e :: es) [] pos) := fun W tk =>
  PE.imp (pe_callSD Fn hr hg hm hk hb .nil (passAt tk) (ha W tk) hdb he hpl) fun σ H Q h => by
    have := call_go (io := io) h
    rw [hl] at this
    exact this
end
end Q

set_option Elab.async false
set_option linter.all false
set_option maxRecDepth 100000
set_option maxHeartbeats 4000000
/-! Calls that lend a name's list. -/
namespace Q
open PySem PySem.Spec PyProof.Rows L2

inductive Arg where
  | v (f : Ev → Res)
  | io (s : Nat)
def vparts : List Arg → List (Ev → Res)
  | [] => []
  | .v f :: as => f :: vparts as
  | .io _ :: as => vparts as
def ioOf : List Arg → List Nat
  | [] => []
  | .v _ :: as => ioOf as
  | .io s :: as => s :: ioOf as
def ioPos : List Arg → Nat
  | [] => 0
  | .v _ :: as => ioPos as + 1
  | .io _ :: _ => 0
def fillA (σ : L2.St) : List Arg → List V → Option (List V)
  | [], [] => some []
  | .v _ :: as, v :: vs => (fillA σ as vs).map fun ws => v :: ws
  | .io s :: as, vs => match σ[s]? with
    | some (some v) => (fillA σ as vs).map fun ws => v :: ws
    | _ => none
  | _, _ => none
def mergeM : List Arg → List M → M → List M
  | .v _ :: as, m :: ms, x => m :: mergeM as ms x
  | .io _ :: as, ms, x => x :: mergeM as ms x
  | _, _, _ => []
def TUA (K : PySem.W.Frag) (mg : Str → Option Value) (W : WX) (as : List Arg) : TA := fun σ H R => (∀ s ∈ ioOf as, ∃ v, σ[s]? = some (some v)) ∧ TUL K mg W (evs (vparts as)) σ H fun vs H1 => ∀ ws, fillA σ as vs = some ws → R ws H1
def SAA (X : Cx) (as : List Arg) (es : List Expr) : Prop := ∀ W, Takes X W → PA X es (TUA X.K X.mg W as)
section
variable {X : Cx} {as : List Arg} {e : Expr} {es : List Expr} {f : Ev → Res}
theorem saa_nil : SAA X [] [] := fun W tk => PA.imp pa_nil fun σ H R h => tul_nil h.2 [] rfl
theorem saa_v (h1 : SE X f e) (h2 : SAA X as es) (hs : starEach (e :: es) X.env = (false, eval e X.env) :: starEach es X.env := by rfl) : SAA X (.v f :: as) (e :: es) := fun W tk =>
  PA.imp (pa_cons (h1 W tk) (h2 W tk) hs) fun σ H R h => tu_mono (tu_cons h.2) fun v H1 q => ⟨h.1, tul_mono q fun vs H2 k ws hw => k (v :: ws) (by unfold fillA; rw [hw]; rfl)⟩
theorem saa_io {s : Nat} {x : Str} {pos : Pos} (hN : X.N[s]? = some x) (hv : Vis X.env.scope x) (h2 : SAA X as es) (hs : starEach (.Name x pos :: es) X.env = (false, eval (.Name x pos) X.env) :: starEach es X.env := by rfl) (hd : (x == ("__debug__" : Str)) = false := by decide) (hcd : (x == ("__classdict__" : Str)) = false := by decide) : SAA X (.io s :: as) (.Name x pos :: es) := fun W tk =>
  PA.imp (pa_cons (pe_var hN hv hd hcd) (h2 W tk) hs) fun σ H R h => by
    obtain ⟨v, hv⟩ := h.1 s List.mem_cons_self
    exact ⟨v, hv, fun t ht => h.1 t (List.mem_cons_of_mem _ ht), tul_mono h.2 fun vs H2 k ws hw => k (v :: ws) (by unfold fillA; rw [hv, hw]; rfl)⟩
end
def backR (e1 : Ev) (s pos : Nat) (e' : Ev) (r : Ev → Res) : Res := match e'[pos]? with
  | some (some m') => if s < e1.length then r (e1.set s (some m')) else .stuck
  | _ => .stuck
def dCallIo (n : Nat) (den : Ev → Out) (as : List Arg) : Ev → Res := fun env => match evs (vparts as) env with
  | .ok xs env1 _ => (match owns xs, ioOf as with
    | some ms0, [s] => (match env1[s]? with
      | some (some m) => (match den (startE n (mergeM as ms0 m)) with
        | .ret r e' => backR env1 s (ioPos as) e' fun e2 => .ok (.own r) e2 .l
        | .nx e' => backR env1 s (ioPos as) e' fun e2 => .ok (.own (.fz .none)) e2 .l
        | .exn c e' => backR env1 s (ioPos as) e' fun e2 => .exn c e2
        | _ => .stuck)
      | _ => .stuck)
    | _, _ => .stuck)
  | .exn c e => .exn c e
  | .stuck => .stuck
section
variable {K : PySem.W.Frag} {mg : Str → Option Value} {H H' H0 H1 H2 : Hp} {G G' Gv Gv' : Addr → Prop} {O O' O0 O1 O2 F F' F1 F2 : List Addr} {Z : Addr → Prop} {env env1 env2 : Ev} {σ σ1 σ' : L2.St}
theorem fill_none : ∀ {as : List Arg} {vs ws : List V} {ms : List M} {x : M}, ioOf as = [] → fillA σ as vs = some ws → vs.length = ms.length → ws = vs ∧ mergeM as ms x = ms
  | [], [], _, ms, _, _, h, hl => by
    unfold fillA at h
    cases h
    have : ms = [] := List.length_eq_zero_iff.mp hl.symm
    subst this
    exact ⟨rfl, rfl⟩
  | [], _ :: _, _, _, _, _, h, _ => by unfold fillA at h; cases h
  | .v f :: as, [], _, _, _, _, h, _ => by unfold fillA at h; cases h
  | .v f :: as, v :: vs, ws, m :: ms, x, hi, h, hl => by
    unfold fillA at h
    obtain ⟨ws', h1, rfl⟩ := Option.map_eq_some_iff.mp h
    obtain ⟨e1, e2⟩ := fill_none (as := as) (x := x) (ms := ms) (show ioOf as = [] from hi) h1 (by simpa using hl)
    exact ⟨by rw [e1], by unfold mergeM; rw [e2]⟩
  | .v f :: as, v :: vs, ws, [], x, hi, h, hl => by simp at hl
  | .io s :: as, _, _, _, _, hi, _, _ => by unfold ioOf at hi; cases hi
theorem fill_one : ∀ {as : List Arg} {vs ws : List V} {ms : List M} {F Fi : List Addr} {v : V} {m : M} {s : Nat}, ioOf as = [s] → σ[s]? = some (some v) → fillA σ as vs = some ws → RMs K H G vs ms F → RM K H G v m Fi → F.Nodup → Fi.Nodup → (∀ a ∈ F, a ∉ Fi) →
    ∃ Fa, RMs K H G ws (mergeM as ms m) Fa ∧ Fa.Nodup ∧ (∀ a, a ∈ Fa ↔ a ∈ F ∨ a ∈ Fi) ∧ ws[ioPos as]? = some v
  | [], _, _, _, _, _, _, _, _, hi, _, _, _, _, _, _, _ => by unfold ioOf at hi; cases hi
  | .v f :: as, [], _, _, _, _, _, _, _, _, _, h, _, _, _, _, _ => by unfold fillA at h; cases h
  | .v f :: as, v0 :: vs, ws, _, _, Fi, v, m, s, hi, hs, h, .cons (F := F0) (F' := F1) (m := m0) h0 r0, hm, nd, ni, dj => by
    unfold fillA at h
    obtain ⟨ws', h1, rfl⟩ := Option.map_eq_some_iff.mp h
    obtain ⟨n1, n2, n3⟩ := List.nodup_append.mp nd
    obtain ⟨Fa, ra, na, ma, pa⟩ := fill_one (as := as) (show ioOf as = [s] from hi) hs h1 r0 hm n2 ni fun a ha => dj a (List.mem_append_right _ ha)
    refine ⟨F0 ++ Fa, .cons h0 ra, List.nodup_append.mpr ⟨n1, na, fun a ha b hb e => ?_⟩, fun a => ?_, pa⟩
    · rcases (ma b).mp hb with q | q
      · exact n3 a ha b q e
      · exact dj a (List.mem_append_left _ ha) (e ▸ q)
    · rw [List.mem_append, List.mem_append, ma, or_assoc]
  | .io t :: as, vs, ws, ms, F, Fi, v, m, s, hi, hs, h, r0, hm, nd, ni, dj => by
    unfold ioOf at hi
    obtain ⟨et, hi2⟩ := List.cons.inj hi
    subst et
    unfold fillA at h
    rw [hs] at h
    obtain ⟨ws', h1, rfl⟩ := Option.map_eq_some_iff.mp h
    obtain ⟨e1, e2⟩ := fill_none (as := as) (x := m) hi2 h1 r0.length
    subst e1
    refine ⟨Fi ++ F, ?_, List.nodup_append.mpr ⟨ni, nd, fun a ha b hb e => dj b hb (e ▸ ha)⟩, fun a => by rw [List.mem_append]; exact Or.comm, rfl⟩
    unfold mergeM
    rw [e2]
    exact .cons hm r0
theorem set_self {i : Nat} {v : V} (h : σ[i]? = some (some v)) : σ.set i (some v) = σ := by
  apply List.ext_getElem?
  intro j
  by_cases e : i = j
  · subst e
    obtain ⟨hl, _⟩ := List.getElem?_eq_some_iff.mp h
    rw [List.getElem?_set_self hl, h]
  · rw [List.getElem?_set_ne e]
/-- the lent tree comes back -/
theorem io_back {Fi Fa : List Addr} {s pos : Nat} {v : V} {m' : M} {e' : Ev} {τ τ' : L2.St} {io : Nat → Bool} (I1 : SI K (Zp (Zp Z F) Fi) O1 (env1.set s none) σ H1) (hs : σ[s]? = some (some v)) (hl : s < env1.length) (ma : ∀ a, a ∈ Fa ↔ a ∈ F ∨ a ∈ Fi) (nzF : ∀ a ∈ Fa, ¬ Z a) (om : OM H1 Fa) (st1 : Step O H O1 Fa H1)
    (hp : io pos = true) (ht : τ[pos]? = some (some v)) (held : Held io τ τ') (em : e'[pos]? = some (some m')) (I2 : SI K (Zp (fun a => Z a ∨ a ∈ O1) F2) O2 e' τ' H2) (nd2 : F2.Nodup) (nz2 : ∀ a ∈ F2, ¬ (Z a ∨ a ∈ O1)) (al2 : ∀ a ∈ F2, ∃ o, H2 a = some o) (st2 : Step Fa H1 O2 F2 H2) :
    ∃ O3, SI K (Zp Z F2) O3 (env1.set s (some m')) σ H2 ∧ Step O H O3 F2 H2 ∧ ∀ a, (¬ (Z a ∨ a ∈ O1) ∧ a ∉ O2 ∧ a ∉ F2) → (∃ o, H2 a = some o) → (¬ Z a ∧ a ∉ O3 ∧ a ∉ F2) := by
  obtain ⟨O2', v', F', hv, I3, rm, ndF, nzF', st3⟩ := I2.take em
  have ev : v' = v := by
    have := held.2 pos hp
    rw [hv, ht] at this
    cases this; rfl
  subst ev
  have alF : ∀ a ∈ F', ∃ o, H2 a = some o := fun a ha => (rm.owd a ha).imp fun o e => e.1
  have st23 : Step Fa H1 O2' (F' ++ F2) H2 := (st2.trans st3).weak fun x hx => List.mem_append.mpr ((List.mem_append.mp hx).symm)
  have I1' : SI K (Zp Z Fa) O1 (env1.set s none) σ H1 := I1.weak fun a z => by
    rcases z with z | z
    · exact .inl (.inl z)
    · rcases (ma a).mp z with z | z
      · exact .inl (.inr z)
      · exact .inr z
  have I4 : SI K (Zp Z (F' ++ F2)) O1 (env1.set s none) σ H2 := I1'.call om nzF st23 fun a ha => (List.mem_append.mp ha).elim (alF a) (al2 a)
  have dj : ∀ a ∈ F', a ∉ F2 := fun a ha z => nzF' a ha (.inr z)
  have st4 : Step O H O1 (F' ++ F2) H2 := ⟨fun a o n e => by
    obtain ⟨e1, n1, f1⟩ := st1.keep a o n e
    obtain ⟨e2, n2, f2⟩ := st23.keep a o f1 e1
    exact ⟨e2, n1, f2⟩⟩
  obtain ⟨O5, I5, st5, gg⟩ := I4.put2 (i := s) (v := v') (m := m') (by rw [List.length_set]; exact hl) (rm.imp fun a g => ⟨fun z => g.1 (.inl (.inl z)), fun z => g.1 (.inl (.inr z)), fun z => (List.mem_append.mp z).elim g.2.2 fun z => g.1 (.inr z)⟩) (List.nodup_append.mpr ⟨ndF, nd2, fun a ha b hb e => dj a ha (e ▸ hb)⟩) (fun a ha z => (List.mem_append.mp ha).elim (fun q => nzF' a q (.inl (.inl z))) fun q => nz2 a q (.inl z)) st4
  rw [List.set_set, set_self hs] at I5
  refine ⟨O5, I5, st5, fun a g ⟨o, e⟩ => gg a ⟨fun z => g.1 (.inl z), fun z => g.1 (.inr z), fun z => ?_⟩⟩
  rcases List.mem_append.mp z with z | z
  · exact (st3.keep a o g.2.1 e).2.2 z
  · exact g.2.2 z
theorem fill_len : ∀ {as : List Arg} {vs ws : List V}, fillA σ as vs = some ws → ws.length = as.length
  | [], [], _, h => by unfold fillA at h; cases h; rfl
  | [], _ :: _, _, h => by unfold fillA at h; cases h
  | .v f :: as, [], _, h => by unfold fillA at h; cases h
  | .v f :: as, v :: vs, ws, h => by
    unfold fillA at h
    obtain ⟨ws', h1, rfl⟩ := Option.map_eq_some_iff.mp h
    rw [List.length_cons, List.length_cons, fill_len (as := as) h1]
  | .io s :: as, vs, ws, h => by
    unfold fillA at h
    split at h
    · obtain ⟨ws', h1, rfl⟩ := Option.map_eq_some_iff.mp h
      rw [List.length_cons, List.length_cons, fill_len (as := as) h1]
    · cases h
def heldAll (e : Ev) (as : List Arg) : Bool := (ioOf as).all (held1 e)
/-- f(.., draw, ..): the name's list is lent -/
def dCallI (n : Nat) (den : Ev → Out) (as : List Arg) : Ev → Res := fun e => if heldAll e as = true then dCallIo n den as e else .stuck
theorem call_io {N : List Str} {io : Nat → Bool} {den : Ev → Out} {as : List Arg} {Q : VK} {W : WX} (hio : io (ioPos as) = true) (h : TU K mg W (dCallI N.length den as) σ H Q) :
    TUA K mg W as σ H fun vs H1 => SpQ K mg N io as.length den (vs ++ []) H1 Q (WE W σ) := by
  obtain ⟨Z, O, env, I, h⟩ := h
  unfold dCallI at h
  by_cases hh : heldAll env as = true
  case neg => rw [if_neg hh] at h; exact h.elim
  rw [if_pos hh] at h
  refine ⟨fun s hs => I.val (List.all_eq_true.mp hh s hs), Z, O, env, I, ?_⟩
  unfold dCallIo at h
  cases e : evs (vparts as) env with
  | stuck => rw [e] at h; exact h
  | exn c e1 => rw [e] at h; exact h
  | ok xs env1 q =>
    rw [e] at h
    simp only [] at h
    intro vs H1 p ws hw
    rw [List.append_nil]
    refine ⟨fill_len hw, ?_⟩
    obtain ⟨O1, F, I1, r1, nd, nz, st1, qu, _⟩ := p.ex
    obtain ⟨ms0, eo⟩ : ∃ ms0, owns xs = some ms0 := by
      cases eo : owns xs with
      | none => simp only [eo] at h
      | some ms0 => exact ⟨ms0, rfl⟩
    obtain ⟨s, ei⟩ : ∃ s, ioOf as = [s] := by
      cases ei : ioOf as with
      | nil => simp only [eo, ei] at h
      | cons s r =>
        cases r with
        | nil => exact ⟨s, rfl⟩
        | cons t r => simp only [eo, ei] at h
    simp only [eo, ei] at h
    obtain ⟨m, em⟩ : ∃ m, env1[s]? = some (some m) := by
      cases em : env1[s]? with
      | none => simp only [em] at h
      | some y =>
        cases y with
        | none => simp only [em] at h
        | some m => exact ⟨m, rfl⟩
    simp only [em] at h
    obtain ⟨O1', v, Fi, hv, I2, rm, ndi, nzi, st2⟩ := I1.take em
    have hl : s < env1.length := by
      obtain ⟨q, _⟩ := List.getElem?_eq_some_iff.mp em
      exact q
    have st12 : Step O H O1' (F ++ Fi) H1 := st1.trans st2
    have gF : ∀ a o, (¬ Z a ∧ a ∉ O1 ∧ a ∉ F) → H1 a = some o → (¬ Z a ∧ a ∉ O1' ∧ a ∉ F ∧ a ∉ Fi) := fun a o g e => ⟨g.1, (st2.keep a o g.2.1 e).2.1, g.2.2, (st2.keep a o g.2.1 e).2.2⟩
    have rms : RMs K H1 (fun a => ¬ Z a ∧ a ∉ O1' ∧ a ∉ F ∧ a ∉ Fi) vs ms0 F := (r1.ms eo).step (O := []) (fun _ z => nomatch z) (fun _ _ z => nomatch z) (fun _ _ z => nomatch z) (fun _ _ _ e => e) gF
    have rmi : RM K H1 (fun a => ¬ Z a ∧ a ∉ O1' ∧ a ∉ F ∧ a ∉ Fi) v m Fi := rm.imp fun a g => ⟨fun z => g.1 (.inl z), g.2.1, fun z => g.1 (.inr z), g.2.2⟩
    obtain ⟨Fa, ra, na, ma, pa⟩ := fill_one ei hv hw rms rmi nd ndi fun a ha z => nzi a z (.inr ha)
    have nzA : ∀ a ∈ Fa, ¬ Z a := fun a ha => ((ma a).mp ha).elim (nz a) fun z q => nzi a z (.inl q)
    have nOA : ∀ a ∈ Fa, a ∉ O1' := fun a ha z => I2.nz a z (((ma a).mp ha).elim (fun q => .inl (.inr q)) .inr)
    have om : OM H1 Fa := OM.of ra.owd
    have st1A : Step O H O1' Fa H1 := st12.weak fun x hx => List.mem_append.mpr ((ma x).mp hx)
    refine ⟨fun a => Z a ∨ a ∈ O1', Fa, startE N.length (mergeM as ms0 m), si_start (ra.imp fun a g => ⟨fun z => z.elim g.1 g.2.1, fun z => ((ma a).mp z).elim g.2.2.1 g.2.2.2⟩) na (fun a ha z => z.elim (nzA a ha) (nOA a ha)) (fun a z => ?_), ?_⟩
    · rcases z with z | z
      · exact I2.zt a (.inl (.inl z))
      · obtain ⟨o, e, _⟩ := I2.owd a z
        exact ⟨o, e⟩
    have ht : (L2.start N ws)[ioPos as]? = some (some v) := by
      unfold L2.start
      obtain ⟨q, _⟩ := List.getElem?_eq_some_iff.mp pa
      rw [List.getElem?_append_left (by simpa using q), List.getElem?_map, pa]; rfl
    cases ed : den (startE N.length (mergeM as ms0 m)) with
    | stuck => simp only [ed] at h
    | brk _ => simp only [ed] at h
    | ct _ => simp only [ed] at h
    | ret r e' =>
      simp only [ed, backR] at h
      obtain ⟨m', em'⟩ : ∃ m', e'[ioPos as]? = some (some m') := by
        cases em' : e'[ioPos as]? with
        | none => simp only [em'] at h
        | some y =>
          cases y with
          | none => simp only [em'] at h
          | some m' => exact ⟨m', rfl⟩
      simp only [em', if_pos hl] at h
      · skip
        intro w σ' H2 pr
        obtain ⟨O2, F2, I3, rr, nd2, nz2, st3⟩ := pr.ex
        have al2 : ∀ a ∈ F2, ∃ o, H2 a = some o := fun a ha => (rr.owd a ha).imp fun o e => e.1
        obtain ⟨O3, I4, st4, gg⟩ := io_back I2 hv hl ma nzA om st1A hio ht pr.io em' I3 nd2 nz2 al2 st3
        refine h w H2 ⟨O3, F2, I4, ?_, nd2, fun a ha z => nz2 a ha (.inl z), st4, fun z => (z rfl).elim, fun z => by cases z⟩
        simpa using RVs.own (rr.step (O := []) (G' := fun a => ¬ Z a ∧ a ∉ O3 ∧ a ∉ F2) (fun _ z => nomatch z) (fun _ _ z => nomatch z) (fun _ _ z => nomatch z) (fun _ _ _ e => e) fun a o g e => gg a g ⟨o, e⟩) .nil
    | nx e' =>
      simp only [ed, backR] at h
      obtain ⟨m', em'⟩ : ∃ m', e'[ioPos as]? = some (some m') := by
        cases em' : e'[ioPos as]? with
        | none => simp only [em'] at h
        | some y =>
          cases y with
          | none => simp only [em'] at h
          | some m' => exact ⟨m', rfl⟩
      simp only [em', if_pos hl] at h
      · skip
        intro σ' H2 pr
        obtain ⟨O2, I3, st3⟩ := pr.ex
        obtain ⟨O3, I4, st4, gg⟩ := io_back (F2 := []) I2 hv hl ma nzA om st1A hio ht pr.io em' (by rw [Zp_nil]; exact I3) List.Pairwise.nil (fun _ z => nomatch z) (fun _ z => nomatch z) st3
        exact h _ H2 ⟨O3, [], I4, .own (.fz .non) .nil, List.Pairwise.nil, (fun _ z => nomatch z), st4, fun z => (z rfl).elim, fun z => by cases z⟩
    | exn c e' =>
      simp only [ed, backR] at h
      obtain ⟨m', em'⟩ : ∃ m', e'[ioPos as]? = some (some m') := by
        cases em' : e'[ioPos as]? with
        | none => simp only [em'] at h
        | some y =>
          cases y with
          | none => simp only [em'] at h
          | some m' => exact ⟨m', rfl⟩
      simp only [em', if_pos hl] at h
      · skip
        intro cls d σ' H2 px
        obtain ⟨O2, I3, st3⟩ := px.ex
        obtain ⟨O3, I4, st4, gg⟩ := io_back (F2 := []) I2 hv hl ma nzA om st1A hio ht px.io em' (by rw [Zp_nil]; exact I3) List.Pairwise.nil (fun _ z => nomatch z) (fun _ z => nomatch z) st3
        rw [Zp_nil] at I4
        exact h cls d H2 ⟨⟨O3, I4, st4⟩, px.er⟩
end
section
variable {X : Cx} {k : Nat} {f : Addr} {fd : FuncData} {ps N : List Str} {io : Nat → Bool} {den : Ev → Out} {x : Str} {p pos : Pos} {e : Expr} {es : List Expr} {as : List Arg}
theorem se_callI (Fn : FnQ X.prog X.w X.K X.mg X.base k f fd ps N io den) (hr : Room k X.A) (hg : Gl X x) (hm : X.mg x = some (.ref f)) (hk : PySem.W.keepIn X.K (.ref f) = true) (hb : Binds X.K fd ps []) (ha : SAA X as (e :: es)) (hio : io (ioPos as) = true := by rfl) (hl : as.length = ps.length := by rfl)
    (hdb : (x == ("__debug__" : Str)) = false := by decide) (he : starEach (e :: es) X.env = (false, eval e X.env) :: starEach es X.env := by rfl) (hpl : (backTo pos (starEach es X.env)).any (·.1) = false := by rfl) :
    SE X (dCallI N.length den as) (.Call (.Name x p) (e :: es) [] pos) := fun W tk =>
  PE.imp (pe_callSD Fn hr hg hm hk hb .nil (passAt tk) (ha W tk) hdb he hpl) fun σ H Q h => by
    have := call_io (io := io) hio h
    rw [hl] at this
    exact this
end
end Q

set_option Elab.async false
set_option linter.all false
set_option maxRecDepth 100000
set_option maxHeartbeats 4000000
/-! Functions by the head's facts; raise, try. -/
namespace Q
open PySem PySem.Spec PyProof.Rows L2

theorem fn_mkD {P : Program} {w : World} {K : PySem.W.Frag} {mg : Str → Option Value} {base : Heap} {x qual : Str} {params : Arguments} {stmts : List Stmt} {scope : Scope} {f : Addr} {fd : FuncData} {N ps : List Str} {k : Nat} {io : Nat → Bool} {den : Ev → Out} (F : FunD K x qual params stmts scope [] [] f fd) (S : FnScope N ps scope)
    (body : ∀ (cdv : Value) (A : Around) (outer : List Env) (s : Shared) (H : Hp) (E : XK), Room k (A.deeper (envOfC qual scope s.heap.objs.size f cdv)) → SSs (cxOf (L2.CX P w) P w K mg base N qual scope f cdv A outer s H E) io den stmts) :
    FnQ P w K mg base (k + 1) f fd ps N io den :=
  F.ok S (fun _ _ _ _ h => h.1) fun cdv A outer s H vs Q E hr hsp => ⟨_, body cdv A outer s H E hr (WF E) (takes_of rfl rfl rfl rfl), hsp.2⟩

/-! ### raise X("..") -/
def dRaise (c : Str) : Ev → Out := fun env => .exn ⟨c, []⟩ env
section
variable {X : Cx} {io : Nat → Bool} {a b : Ev → Out} {f g : Ev → Res} {s : Stmt} {ss : List Stmt} {e : Expr} {pos pos' np : Pos}
theorem ss_raise {C : Addr} {x m : Str} {j : Nat} {p p2 : Pos} (hc : X.calm = true) (q : PySem.W.excIn X.K C He.veBase "ValueError.__new__" = true) (gC : X.mg x = some (.ref C)) (kC : PySem.W.keepIn X.K (.ref C) = true) (s1 : PySem.W.subIn X.K (.ref C) (.type "BaseException") = some true) (s2 : PySem.W.typeIn X.K (.ref C) = some (.type "type")) (hg : Gl X x)
    (hdb : (x == ("__debug__" : Str)) = false := by decide) : SS X io (dRaise x) (.Raise (some (.Call (.Name x p) [.Constant (.str m) j p2] [] pos)) none pos') := fun W tk =>
  PS.imp (ps_raise hc tk (pmk_own F.excBase_ValueError q gC kC (raises_own s1 s2) hg hdb)) fun D σ H ⟨Z, O, env, I, h⟩ =>
    h _ _ σ H ⟨⟨O, I, Step.refl⟩, Held.refl, ⟨C, rfl, gC⟩, .inl ⟨rfl, rfl⟩⟩

/-! ### try -/
/-- which exceptions the clause takes -/
abbrev Takers := List (Str × Bool)
def TakerOk (K : PySem.W.Frag) (mg : Str → Option Value) (t : Takers) (c : Value) : Prop := ∀ p ∈ t, ∀ C, mg p.1 = some (.ref C) → PySem.W.exmOne K (.ref C) c = some p.2
/-- a suite raises nothing -/
def noX : Out → Out
  | .exn _ _ => .stuck
  | r => r
theorem EndS.noW {K : PySem.W.Frag} {mg : Str → Option Value} {W W' : WX} {D : Ends} {Z : Addr → Prop} {O : List Addr} {σ : L2.St} {H : Hp} {r : Out} (h : EndS K mg W io D Z O σ H (noX r)) : EndS K mg W' io D Z O σ H r := by
  cases r with
  | exn c e => exact h.elim
  | nx e => exact h
  | ret m e => exact h
  | brk e => exact h
  | ct e => exact h
  | stuck => exact h
/-- try: body, except x: suite -/
def dTry (b : Ev → Out) (hs : List (Takers × (Ev → Out))) : Ev → Out := fun env => match b env with
  | .exn c e => go c e hs
  | r => r
where
  go (c : Exn) (e : Ev) : List (Takers × (Ev → Out)) → Out
  | [] => .exn c e
  | (t, s) :: r => match t.lookup c.cls with
    | some true => noX (s e)
    | some false => go c e r
    | none => .stuck
theorem lookup_mem' {c : Str} {b : Bool} : ∀ {t : Takers}, t.lookup c = some b → (c, b) ∈ t
  | [], h => by cases h
  | (d, b') :: r, h => by
    unfold List.lookup at h
    cases q : (c == d) with
    | true =>
      simp only [q] at h
      cases h
      rw [beq_iff_eq.mp q]
      exact List.mem_cons_self
    | false =>
      simp only [q] at h
      exact List.mem_cons_of_mem _ (lookup_mem' h)
theorem EndS.wmap {K : PySem.W.Frag} {mg : Str → Option Value} {W W' : WX} {D : Ends} {Z : Addr → Prop} {O : List Addr} {σ : L2.St} {H : Hp} {r : Out} (h : EndS K mg W io D Z O σ H r) (hw : ∀ c e, r = .exn c e → ∀ cls d σ' H', PostXS K mg Z O io σ H c e cls d σ' H' → W' cls d σ' H') : EndS K mg W' io D Z O σ H r := by
  cases r with
  | exn c e => exact hw c e rfl
  | nx e => exact h
  | ret m e => exact h
  | brk e => exact h
  | ct e => exact h
  | stuck => exact h
theorem tus_try {K : PySem.W.Frag} {mg : Str → Option Value} {W W' : WX} {b : Ev → Out} {hs : List (Takers × (Ev → Out))} {D : Ends} {σ : L2.St} {H : Hp} (h : TUS K mg W io (dTry b hs) D σ H)
    (hw : ∀ Z O env c e, SI K Z O env σ H → EndS K mg W io D Z O σ H (dTry.go c e hs) → ∀ cls d σ' H', PostXS K mg Z O io σ H c e cls d σ' H' → W' cls d σ' H') : TUS K mg W' io b D σ H := by
  obtain ⟨Z, O, env, I, h⟩ := h
  refine ⟨Z, O, env, I, ?_⟩
  unfold dTry at h
  cases e : b env with
  | exn c e1 =>
    rw [e] at h
    exact fun cls d σ' H' p => hw Z O env c e1 I h cls d σ' H' p
  | nx e1 => rw [e] at h; exact h
  | ret m e1 => rw [e] at h; exact h
  | brk e1 => rw [e] at h; exact h
  | ct e1 => rw [e] at h; exact h
  | stuck => rw [e] at h; exact h
theorem taker_of {K : PySem.W.Frag} {mg : Str → Option Value} {H : Hp} {c : Exn} {cls : Value} {d : Option Addr} {t : Takers} {cl : Value} {v : Bool} (r : ExnR K mg H c cls d) (ok : TakerOk K mg t cl) (h : t.lookup c.cls = some v) : PySem.W.exmOne K cls cl = some v := by
  obtain ⟨C, rfl, hm⟩ := r.cls
  exact ok _ (lookup_mem' h) C hm
theorem ss_try1 {x : Str} {c : Value} {t : Takers} {b₀ : Stmt} {suite body : List Stmt} (hs : X.stack = X.env :: X.outer) (hf : X.env.frame = some X.env.locals) (hc : Names X x c) (tk : TakerOk X.K X.mg t c)
    (hb : ∀ (pn : List (Addr × Obj)) (xe : Value → Shared → Prop), PassesOwn (model X.prog X.w) X.A X.env xe → SSs (X.tr pn xe) io b body)
    (hsu : ∀ (p : Addr × Obj) (pn : List (Addr × Obj)), SSs (X.suite p.1 (p :: pn)) io a (b₀ :: suite)) : SS X io (dTry b [(t, a)]) (.Try body [.ExceptHandler (some (.Name x np)) none (b₀ :: suite) pos'] [] [] pos) := fun W tW =>
  PS.imp (ps_try_only (tb := fun W => TUS X.K X.mg W io b) (ts := fun _ _ _ => TUS X.K X.mg W0 io a) hs hf hc tW (fun W pn xe tk hp => hb pn xe hp W tk) fun av oe cls d pn hz hv => hsu (av, oe) pn W0 takes0) fun D σ H h => tus_try h fun Z O env c0 e I h cls d σ' H' p => by
    unfold dTry.go at h
    obtain ⟨O', I', st⟩ := p.ex
    cases el : t.lookup c0.cls with
    | none => rw [el] at h; exact h.elim
    | some v =>
      rw [el] at h
      refine ⟨v, taker_of p.er tk el, fun e1 av hav => ?_, fun e1 => ?_⟩
      · subst e1
        exact ⟨Z, O', e, I', EndS.noW (h.after st p.io)⟩
      · subst e1
        exact h cls d σ' H' p
/-- several clauses -/
inductive HdsQ (X : Cx) (io : Nat → Bool) : List ExceptHandler → List (Value × (Addr → Value → Option Addr → TS)) → List (Takers × (Ev → Out)) → Prop
  | nil : HdsQ X io [] [] []
  | cons {x : Str} {c : Value} {t : Takers} {a : Ev → Out} {b₀ : Stmt} {suite : List Stmt} {np pos' : Pos} {hds : List ExceptHandler} {l : List (Value × (Addr → Value → Option Addr → TS))} {hs : List (Takers × (Ev → Out))} (hc : Names X x c) (tk : TakerOk X.K X.mg t c)
      (hsu : ∀ (p : Addr × Obj) (pn : List (Addr × Obj)), SSs (X.suite p.1 (p :: pn)) io a (b₀ :: suite)) (r : HdsQ X io hds l hs) :
      HdsQ X io (.ExceptHandler (some (.Name x np)) none (b₀ :: suite) pos' :: hds) ((c, fun _ _ _ => TUS X.K X.mg W0 io a) :: l) ((t, a) :: hs)
theorem HdsQ.ok {hds : List ExceptHandler} {l : List (Value × (Addr → Value → Option Addr → TS))} {hs : List (Takers × (Ev → Out))} (h : HdsQ X io hds l hs) : HdsOk X hds l := by
  induction h with
  | nil => exact .nil
  | cons hc tk hsu r ih => exact .cons hc (fun av oe cls d pn hz hv => hsu (av, oe) pn W0 takes0) ih
theorem HdsQ.go {hds : List ExceptHandler} {l : List (Value × (Addr → Value → Option Addr → TS))} {hs : List (Takers × (Ev → Out))} (h : HdsQ X io hds l hs) {W : WX} {D : Ends} {Z : Addr → Prop} {O : List Addr} {σ σ' : L2.St} {H H' : Hp} {c : Exn} {e : Ev} {cls : Value} {d : Option Addr}
    (p : PostXS X.K X.mg Z O io σ H c e cls d σ' H') (hw : EndS X.K X.mg W io D Z O σ H (dTry.go c e hs)) : wMany X.K W D l cls d σ' H' := by
  obtain ⟨O', I', st⟩ := p.ex
  induction h with
  | nil => exact hw cls d σ' H' p
  | cons hc tk hsu r ih =>
    rename_i t a b₀ suite np pos' hds l hs
    unfold dTry.go at hw
    cases el : t.lookup c.cls with
    | none => rw [el] at hw; exact hw.elim
    | some v =>
      rw [el] at hw
      refine ⟨v, taker_of p.er tk el, fun e1 av hav => ?_, fun e1 => ?_⟩
      · subst e1
        exact ⟨Z, O', e, I', EndS.noW (hw.after st p.io)⟩
      · subst e1
        exact ih hw
theorem ss_tryN {h₀ : ExceptHandler} {hds : List ExceptHandler} {l : List (Value × (Addr → Value → Option Addr → TS))} {hls : List (Takers × (Ev → Out))} {body : List Stmt} (hs : X.stack = X.env :: X.outer) (hf : X.env.frame = some X.env.locals)
    (hb : ∀ (pn : List (Addr × Obj)) (xe : Value → Shared → Prop), PassesOwn (model X.prog X.w) X.A X.env xe → SSs (X.tr pn xe) io b body) (hh : HdsQ X io (h₀ :: hds) l hls) : SS X io (dTry b hls) (.Try body (h₀ :: hds) [] [] pos) := fun W tW =>
  PS.imp (ps_try_many (tb := fun W => TUS X.K X.mg W io b) hs hf tW (fun W pn xe tk hp => hb pn xe hp W tk) hh.ok) fun D σ H h => tus_try h fun Z O env c0 e I h cls d σ' H' p => hh.go p h
end
end Q

set_option Elab.async false
set_option linter.all false
set_option maxRecDepth 100000
set_option maxHeartbeats 4000000
/-! enumerate, zip. -/
namespace Q
open PySem PySem.Spec PyProof.Rows L2

/-- enumerate of a tuple -/
def EnT (K : PySem.W.Frag) (a : Addr) : It :=
  ⟨fun i H => ∃ (ws : List V) (w : V), SqT K H a ws ∧ ws[i]? = some w, fun i H v H2 => ∃ T w o, v = .ref T ∧ H T = none ∧ H2 = upd H T (TF o [.int (i : Nat), w]) ∧ o.dict = none ∧ ∀ ws, SqT K H a ws → ws[i]? = some w, fun i H => ∃ ws : List V, SqT K H a ws ∧ ws.length = i⟩
/-- enumerate of a list -/
def EnL (K : PySem.W.Frag) (a : Addr) : It :=
  ⟨fun i H => ∃ (ws : List V) (w : V), SqL K H a ws ∧ ws[i]? = some w, fun i H v H2 => ∃ T w o, v = .ref T ∧ H T = none ∧ H2 = upd H T (TF o [.int (i : Nat), w]) ∧ o.dict = none ∧ ∀ ws, SqL K H a ws → ws[i]? = some w, fun i H => ∃ ws : List V, SqL K H a ws ∧ ws.length = i⟩
theorem new_enumT {v : Value} {ob : Obj} {Hh : Heap → Prop} (B : Begins v ob Hh) :
    Meets (Builtin.«enumerate.__new__» ⟨[.type "enumerate", v], []⟩) (fun _ R s => Hh s.heap ∧
      R (.ok (.ret (.ref (s.heap.push ob).objs.size))) { s with heap := (s.heap.push ob).push { cls := .type "enumerate", data := .fields #[.none, .bool false, .ref s.heap.objs.size, rawInt 0, .none, .none] } }) :=
  .of_wp fun prog w A R s hh => by
    obtain ⟨h0, gs, dr, tk, os⟩ := s
    obtain ⟨hb, hh⟩ := hh
    have hsub := sub_enumerate
    have it1 : ∀ {A2 : Around} {E2 : Value → Shared → Prop} {Q2 : Value → Shared → Prop}, Q2 (.ref h0.objs.size) ⟨h0.push ob, gs, dr, tk, os⟩ → wpAny (model prog w) A2 (pyIter v) Q2 E2 ⟨h0, gs, dr, tk, os⟩ :=
      fun q2 => B.iter prog w _ _ ⟨h0, gs, dr, tk, os⟩ _ hb q2
    wp_walk using it1
    refine wpAny_stack_any fun st2 => wpAny_pure ?_
    split
    · rename_i cc _ _ _ _ _
      cases (cc == Value.type "enumerate")
      · wp_walk using it1
        exact ⟨_, rfl, hh⟩
      · wp_walk using it1
        exact ⟨_, rfl, hh⟩
    · wp_walk using it1
      exact ⟨_, rfl, hh⟩
theorem call_enumB {prog : Program} {w : World} {A : Around} {E : Value → Shared → Prop} {s : Shared} {v : Value} {ob : Obj} {Hh : Heap → Prop} {Q : Value → Shared → Prop} (B : Begins v ob Hh) (hb : Hh s.heap)
    (k : ∀ h2, IsEnum h2 (s.heap.objs.size + 1) s.heap.objs.size 0 .none → h2.get? s.heap.objs.size = some ob → (∀ c o, s.heap.get? c = some o → h2.get? c = some o) → Q (.ref (s.heap.objs.size + 1)) { s with heap := h2 }) :
    wpAny (model prog w) A (call (.type "enumerate") [v]) Q E s := by
  refine callType_new F.called_enumerate (by decide) (F.typeCall_enumerate_1 _) (F.newCall_enumerate_1 _) (fun obj => F.args_object_init_2 obj _) F.entry_enumerate_new (new_enumT B) ⟨hb, ?_⟩
  have sz : (s.heap.push ob).objs.size = s.heap.objs.size + 1 := Heap.size_push ..
  show _ ∧ _
  rw [sz]
  have en : IsEnum ((s.heap.push ob).push { cls := .type "enumerate", data := .fields #[.none, .bool false, .ref s.heap.objs.size, rawInt 0, .none, .none] }) (s.heap.objs.size + 1) s.heap.objs.size 0 .none := by
    have g := Heap.get?_push_size (s.heap.push ob) (o := { cls := .type "enumerate", data := .fields #[.none, .bool false, .ref s.heap.objs.size, rawInt 0, .none, .none] }) rfl
    rw [sz] at g; exact g
  exact ⟨⟨_, en, rfl⟩, k _ en (Heap.get?_push_of_some _ (Heap.get?_push_size _ B.free)) fun c o x => Heap.get?_push_of_some _ (Heap.get?_push_of_some _ x)⟩
theorem turn_enumT {P : Program} {w : World} {K : PySem.W.Frag} {elts : List Expr} {kk : Nat} {tpos : Pos} (a en it : Addr) :
    Turn P w K (.Tuple elts kk tpos) (EnT K a) [en, it] en (fun i h => (∃ old, IsEnum h en it ((i : Nat) : Int) old) ∧ h.IsTupleIter it a i ∧ en ≠ it) where
  mem := by simp
  obj := fun i h st b hb => by
    obtain ⟨⟨old, hen⟩, ⟨oi, hi, hci, hdi⟩, _⟩ := st
    have hb2 : b = en ∨ b = it := by simpa using hb
    rcases hb2 with z | z
    · rw [z]; exact ⟨_, hen, fun v q => nomatch q⟩
    · rw [z]; exact ⟨oi, hi, fun v q => by rw [hdi] at q; cases q⟩
  keep := fun i h h2 st kp => let ⟨⟨old, hen⟩, hi, hne⟩ := st; ⟨⟨old, kp en (by simp) _ hen⟩, hi.at fun o q => kp it (by simp) o q, hne⟩
  item := by
    intro X hP hw hK hc i pins s σ H E I hf st hg
    subst hP hw hK
    obtain ⟨⟨old, hen⟩, hit, hne⟩ := st
    obtain ⟨ws, x, hq, hx⟩ := hg
    obtain ⟨its, rv, tp, hz⟩ := I.tuple hq
    obtain ⟨u, hu, ru⟩ := rv.get hx
    have tpl : s.heap.IsTuple a its.toArray := tp
    have lt_e : en < s.heap.objs.size := Heap.lt_size hen
    have lt_i : it < s.heap.objs.size := by obtain ⟨_, q, _⟩ := hit; exact Heap.lt_size q
    obtain ⟨fa0, _⟩ := hf it (by simp)
    have ait : a ≠ it := fun z => by
      obtain ⟨oi, hi, hci, _⟩ := hit
      obtain ⟨oa, ha, hca, _⟩ := tpl
      rw [z, hi] at ha; cases ha
      rw [hci] at hca; exact absurd (Value.type.inj hca) (by decide)
    have aen : en ∉ [it, a] := fun z => by
      rcases List.mem_cons.mp z with z | z
      · exact hne z
      · rw [List.mem_singleton.mp z] at hen
        obtain ⟨oa, ha, hca, _⟩ := tpl
        rw [hen] at ha; cases ha
        exact absurd (Value.type.inj hca) (by decide)
    have hA : X.A.in1.handled = none := I.ok.hd hc
    have D := Draws.tuple (prog := X.prog) (w := X.w) (A := X.A.in1) hA it a ait its.toArray
    have hlt : i < its.toArray.size := by
      obtain ⟨q, _⟩ := List.getElem?_eq_some_iff.mp hu
      simpa using q
    refine wpAny_pyNext_enum_itemD D hen ⟨hit, tpl⟩ hlt hne aen fun y h2 tk hy eo st2 gT sz2 kp => ?_
    have hyu : y = u := by
      have q : its.toArray[i]? = some u := by simpa using hu
      rw [q] at hy; exact (Option.some.inj hy).symm
    subst hyu
    refine ⟨_, rfl, wpAny_letOwnedTupleGo_enum (s := { s with heap := h2, toks := tk + 1 }) eo fun h3 en3 sb => ?_⟩
    have gT3 : h3.get? s.heap.objs.size = some { cls := .type "tuple", data := .seq #[.int i tk, y] } := (sb.2 _ (Nat.ne_of_gt lt_e)).trans gT
    have ob : ObjOk X.prog X.w (upd H s.heap.objs.size (TF { cls := .type "tuple", data := .seq #[.int i tk, y] } [.int (i : Nat), x])) h3 s.heap.objs.size (TF { cls := .type "tuple", data := .seq #[.int i tk, y] } [.int (i : Nat), x]) :=
      ⟨gT3, by show 2 ≤ sizeLine; decide, [.int i tk, y], .cons ⟨_, rfl⟩ (.cons ru .nil), ⟨_, gT3, rfl, _, rfl⟩⟩
    have J : Inv X pins σ (upd H s.heap.objs.size (TF { cls := .type "tuple", data := .seq #[.int i tk, y] } [.int (i : Nat), x])) { s with heap := h3, toks := tk + 1 } :=
      I.turnedNew (ch := [en, it]) (fun b o hb q => (sb.2 b (fun z => hb (by simp [z]))).trans (kp b o (fun z => hb (by simp [z])) (fun z => hb (by simp [z])) q)) hf (Nat.le_refl _) ob
    refine ⟨.ref s.heap.objs.size, _, J, rfl, ⟨_, x, _, rfl, I.hok.fresh (Nat.le_refl _), rfl, rfl, fun ys hy => by rw [I.tuple_inj hy hq]; exact hx⟩, ⟨⟨y, ?_⟩, st2.1.at fun o q => (sb.2 it (Ne.symm hne)).trans q, hne⟩, fun b hb => ?_⟩
    · have e1 : ((i + 1 : Nat) : Int) = (i : Int) + 1 := by omega
      rw [e1]; exact en3
    · have lb : b < s.heap.objs.size := by
        have hb2 : b = en ∨ b = it := by simpa using hb
        rcases hb2 with z | z
        · rw [z]; exact lt_e
        · rw [z]; exact lt_i
      rw [upd_ne (Nat.ne_of_lt lb)]
      exact (hf b hb).1
  done := by
    intro X hP hw hK hc i pins s σ H E I hf st hg
    subst hP hw hK
    obtain ⟨⟨old, hen⟩, hit, hne⟩ := st
    obtain ⟨ws, hq, hx⟩ := hg
    obtain ⟨its, rv, tp, hz⟩ := I.tuple hq
    have tpl : s.heap.IsTuple a its.toArray := tp
    obtain ⟨f0, f1, f2, f3, f4, f5⟩ := hf it (by simp)
    have ait : a ≠ it := fun z => by
      obtain ⟨oi, hi, hci, _⟩ := hit
      obtain ⟨oa, ha, hca, _⟩ := tpl
      rw [z, hi] at ha; cases ha
      rw [hci] at hca; exact absurd (Value.type.inj hca) (by decide)
    have hA : X.A.in1.handled = none := I.ok.hd hc
    have D := Draws.tuple (prog := X.prog) (w := X.w) (A := X.A.in1) hA it a ait its.toArray
    have hn : its.toArray.size = i := by have := rv.length; simp; omega
    exact wpAny_pyNext_enum_endD D hen ⟨hn ▸ hit, tpl⟩ fun h2 eb => ⟨rfl, I.turned (t' := s.toks) (fun b o hb q => eb b o hb q) f0 f1 f3 f4 f5⟩
  self := fun A i s Q E st h => let ⟨⟨_, hen⟩, _⟩ := st; wpAny_pyIter_enum hen h
theorem pi_enumT {X : Cx} {e : Expr} {ta : TA} {p pos tpos : Pos} {elts : List Expr} {kk : Nat} (hg : Gl X "enumerate") (hm : X.mg "enumerate" = none) (ha : PA X [e] ta) (hs : starEach [e] X.env = [(false, eval e X.env)] := by rfl) :
    PI X (.Tuple elts kk tpos) (.Call (.Name "enumerate" p) [e] [] pos) (fun σ H R => ta σ H fun vs H1 => ∃ a ws, vs = [.ref a] ∧ SqT X.K H1 a ws ∧ R (EnT X.K a) H1) := by
  refine ⟨fun pins s σ H R I hh => ?_⟩
  refine Call_ (ld_blt I hg hm boot_enumerate (PyProof.Rows.callWith_type1 (thn (ha.run pos pins s σ H _ I hh) fun us s1 ⟨vs, H1, J, r1, q1⟩ => ?_) hs rfl))
  obtain ⟨a, ws, rfl, hq, q⟩ := q1
  cases r1 with
  | cons r rr =>
    cases rr
    cases r
    obtain ⟨its, rv, tp, hz⟩ := J.tuple hq
    have tpl : s1.heap.IsTuple a its.toArray := tp
    refine call_enumB (begins_tuple a its.toArray) tpl fun h2 en hi kp => wpAny_pyIter_enum en ?_
    have J2 : Inv X pins σ H1 { s1 with heap := h2 } := J.kept (t' := s1.toks) kp
    refine ⟨s1.heap.objs.size + 1, [s1.heap.objs.size + 1, s1.heap.objs.size], _, _, H1, rfl, J2, turn_enumT a (s1.heap.objs.size + 1) s1.heap.objs.size, ⟨⟨.none, en⟩, ⟨_, hi, rfl, rfl⟩, Nat.succ_ne_self _⟩, fun b hb => ?_, q⟩
    have hb2 : b = s1.heap.objs.size + 1 ∨ b = s1.heap.objs.size := by simpa using hb
    have le : s1.heap.objs.size ≤ b := by
      rcases hb2 with z | z
      · rw [z]; exact Nat.le_add_right _ _
      · rw [z]; exact Nat.le_refl _
    exact J.fpOk le (J.hok.fresh le)
theorem turn_enumL {P : Program} {w : World} {K : PySem.W.Frag} {elts : List Expr} {kk : Nat} {tpos : Pos} (a en it : Addr) :
    Turn P w K (.Tuple elts kk tpos) (EnL K a) [en, it] en (fun i h => (∃ old, IsEnum h en it ((i : Nat) : Int) old) ∧ h.IsListIter it a i ∧ en ≠ it) where
  mem := by simp
  obj := fun i h st b hb => by
    obtain ⟨⟨old, hen⟩, ⟨oi, hi, hci, hdi⟩, _⟩ := st
    have hb2 : b = en ∨ b = it := by simpa using hb
    rcases hb2 with z | z
    · rw [z]; exact ⟨_, hen, fun v q => nomatch q⟩
    · rw [z]; exact ⟨oi, hi, fun v q => by rw [hdi] at q; cases q⟩
  keep := fun i h h2 st kp => let ⟨⟨old, hen⟩, hi, hne⟩ := st; ⟨⟨old, kp en (by simp) _ hen⟩, hi.at fun o q => kp it (by simp) o q, hne⟩
  item := by
    intro X hP hw hK hc i pins s σ H E I hf st hg
    subst hP hw hK
    obtain ⟨⟨old, hen⟩, hit, hne⟩ := st
    obtain ⟨ws, x, hq, hx⟩ := hg
    obtain ⟨its, rv, tp, hz⟩ := I.list hq
    obtain ⟨u, hu, ru⟩ := rv.get hx
    have tpl : s.heap.IsList a its.toArray := tp.isList
    have lt_e : en < s.heap.objs.size := Heap.lt_size hen
    have lt_i : it < s.heap.objs.size := by obtain ⟨_, q, _⟩ := hit; exact Heap.lt_size q
    obtain ⟨fa0, _⟩ := hf it (by simp)
    have ait : a ≠ it := fun z => by
      obtain ⟨oi, hi, hci, _⟩ := hit
      obtain ⟨oa, ha, hca, _⟩ := tpl
      rw [z, hi] at ha; cases ha
      rw [hci] at hca; exact absurd (Value.type.inj hca) (by decide)
    have aen : en ∉ [it, a] := fun z => by
      rcases List.mem_cons.mp z with z | z
      · exact hne z
      · rw [List.mem_singleton.mp z] at hen
        obtain ⟨oa, ha, hca, _⟩ := tpl
        rw [hen] at ha; cases ha
        exact absurd (Value.type.inj hca) (by decide)
    have hA : X.A.in1.handled = none := I.ok.hd hc
    have D := Draws.list (prog := X.prog) (w := X.w) (A := X.A.in1) hA it a ait its.toArray
    have hlt : i < its.toArray.size := by
      obtain ⟨q, _⟩ := List.getElem?_eq_some_iff.mp hu
      simpa using q
    refine wpAny_pyNext_enum_itemD D hen ⟨hit, tpl⟩ hlt hne aen fun y h2 tk hy eo st2 gT sz2 kp => ?_
    have hyu : y = u := by
      have q : its.toArray[i]? = some u := by simpa using hu
      rw [q] at hy; exact (Option.some.inj hy).symm
    subst hyu
    refine ⟨_, rfl, wpAny_letOwnedTupleGo_enum (s := { s with heap := h2, toks := tk + 1 }) eo fun h3 en3 sb => ?_⟩
    have gT3 : h3.get? s.heap.objs.size = some { cls := .type "tuple", data := .seq #[.int i tk, y] } := (sb.2 _ (Nat.ne_of_gt lt_e)).trans gT
    have ob : ObjOk X.prog X.w (upd H s.heap.objs.size (TF { cls := .type "tuple", data := .seq #[.int i tk, y] } [.int (i : Nat), x])) h3 s.heap.objs.size (TF { cls := .type "tuple", data := .seq #[.int i tk, y] } [.int (i : Nat), x]) :=
      ⟨gT3, by show 2 ≤ sizeLine; decide, [.int i tk, y], .cons ⟨_, rfl⟩ (.cons ru .nil), ⟨_, gT3, rfl, _, rfl⟩⟩
    have J : Inv X pins σ (upd H s.heap.objs.size (TF { cls := .type "tuple", data := .seq #[.int i tk, y] } [.int (i : Nat), x])) { s with heap := h3, toks := tk + 1 } :=
      I.turnedNew (ch := [en, it]) (fun b o hb q => (sb.2 b (fun z => hb (by simp [z]))).trans (kp b o (fun z => hb (by simp [z])) (fun z => hb (by simp [z])) q)) hf (Nat.le_refl _) ob
    refine ⟨.ref s.heap.objs.size, _, J, rfl, ⟨_, x, _, rfl, I.hok.fresh (Nat.le_refl _), rfl, rfl, fun ys hy => by rw [I.list_inj hy hq]; exact hx⟩, ⟨⟨y, ?_⟩, st2.1.at fun o q => (sb.2 it (Ne.symm hne)).trans q, hne⟩, fun b hb => ?_⟩
    · have e1 : ((i + 1 : Nat) : Int) = (i : Int) + 1 := by omega
      rw [e1]; exact en3
    · have lb : b < s.heap.objs.size := by
        have hb2 : b = en ∨ b = it := by simpa using hb
        rcases hb2 with z | z
        · rw [z]; exact lt_e
        · rw [z]; exact lt_i
      rw [upd_ne (Nat.ne_of_lt lb)]
      exact (hf b hb).1
  done := by
    intro X hP hw hK hc i pins s σ H E I hf st hg
    subst hP hw hK
    obtain ⟨⟨old, hen⟩, hit, hne⟩ := st
    obtain ⟨ws, hq, hx⟩ := hg
    obtain ⟨its, rv, tp, hz⟩ := I.list hq
    have tpl : s.heap.IsList a its.toArray := tp.isList
    obtain ⟨f0, f1, f2, f3, f4, f5⟩ := hf it (by simp)
    have ait : a ≠ it := fun z => by
      obtain ⟨oi, hi, hci, _⟩ := hit
      obtain ⟨oa, ha, hca, _⟩ := tpl
      rw [z, hi] at ha; cases ha
      rw [hci] at hca; exact absurd (Value.type.inj hca) (by decide)
    have hA : X.A.in1.handled = none := I.ok.hd hc
    have D := Draws.list (prog := X.prog) (w := X.w) (A := X.A.in1) hA it a ait its.toArray
    have hn : its.toArray.size = i := by have := rv.length; simp; omega
    exact wpAny_pyNext_enum_endD D hen ⟨hn ▸ hit, tpl⟩ fun h2 eb => ⟨rfl, I.turned (t' := s.toks) (fun b o hb q => eb b o hb q) f0 f1 f3 f4 f5⟩
  self := fun A i s Q E st h => let ⟨⟨_, hen⟩, _⟩ := st; wpAny_pyIter_enum hen h
theorem pi_enumL {X : Cx} {e : Expr} {ta : TA} {p pos tpos : Pos} {elts : List Expr} {kk : Nat} (hg : Gl X "enumerate") (hm : X.mg "enumerate" = none) (ha : PA X [e] ta) (hs : starEach [e] X.env = [(false, eval e X.env)] := by rfl) :
    PI X (.Tuple elts kk tpos) (.Call (.Name "enumerate" p) [e] [] pos) (fun σ H R => ta σ H fun vs H1 => ∃ a ws, vs = [.ref a] ∧ SqL X.K H1 a ws ∧ R (EnL X.K a) H1) := by
  refine ⟨fun pins s σ H R I hh => ?_⟩
  refine Call_ (ld_blt I hg hm boot_enumerate (PyProof.Rows.callWith_type1 (thn (ha.run pos pins s σ H _ I hh) fun us s1 ⟨vs, H1, J, r1, q1⟩ => ?_) hs rfl))
  obtain ⟨a, ws, rfl, hq, q⟩ := q1
  cases r1 with
  | cons r rr =>
    cases rr
    cases r
    obtain ⟨its, rv, tp, hz⟩ := J.list hq
    have tpl : s1.heap.IsList a its.toArray := tp.isList
    refine call_enumB (begins_list a its.toArray) tpl fun h2 en hi kp => wpAny_pyIter_enum en ?_
    have J2 : Inv X pins σ H1 { s1 with heap := h2 } := J.kept (t' := s1.toks) kp
    refine ⟨s1.heap.objs.size + 1, [s1.heap.objs.size + 1, s1.heap.objs.size], _, _, H1, rfl, J2, turn_enumL a (s1.heap.objs.size + 1) s1.heap.objs.size, ⟨⟨.none, en⟩, ⟨_, hi, rfl, rfl⟩, Nat.succ_ne_self _⟩, fun b hb => ?_, q⟩
    have hb2 : b = s1.heap.objs.size + 1 ∨ b = s1.heap.objs.size := by simpa using hb
    have le : s1.heap.objs.size ≤ b := by
      rcases hb2 with z | z
      · rw [z]; exact Nat.le_add_right _ _
      · rw [z]; exact Nat.le_refl _
    exact J.fpOk le (J.hok.fresh le)
/-! ### the pairs of place and item -/
def enD (ds : List PyData) : List PyData := ds.zipIdx.map fun p => .tuple [.int (p.2 : Nat), p.1]
theorem enD_get {ds : List PyData} {i : Nat} {d : PyData} (h : (enD ds)[i]? = some d) : ∃ x, ds[i]? = some x ∧ d = .tuple [.int (i : Nat), x] := by
  unfold enD at h
  rw [List.getElem?_map] at h
  obtain ⟨p, hp, rfl⟩ := Option.map_eq_some_iff.mp h
  rw [List.getElem?_zipIdx] at hp
  obtain ⟨x, hx, rfl⟩ := Option.map_eq_some_iff.mp hp
  exact ⟨x, hx, by simp⟩
theorem enD_len (ds : List PyData) : (enD ds).length = ds.length := by simp [enD]
section
variable {K : PySem.W.Frag}
theorem pair_new {H : Hp} {G : Addr → Prop} {T : Addr} {x y : V} {a b : PyData} {ob : Obj} (hn : H T = none) (ho : ob.dict = none) (r1 : RF K H G x a) (r2 : RF K H G y b) : (∀ c o, H c = some o → upd H T (TF ob [x, y]) c = some o) ∧ RF K (upd H T (TF ob [x, y])) G (.ref T) (.tuple [a, b]) := by
  have k := upd_keep (o := TF ob [x, y]) hn
  exact ⟨k, .tup (.inl ⟨ob, upd_same, ho⟩) (.cons (r1.grow k) (.cons (r2.grow k) .nil))⟩
theorem live_enL {a : Addr} {xs : List V} {ds : List PyData} (hl : xs.length = ds.length) : Live K (EnL K a) (enD ds) (fun G H => L2.Rd H a (.lst xs) ∧ G a ∧ RFs K H G xs ds) where
  goes := fun i H G hi ⟨h, _, _⟩ => ⟨xs, xs[i]'(by rw [enD_len] at hi; omega), .inl h, List.getElem?_eq_getElem _⟩
  stops := fun H G ⟨h, _, _⟩ => ⟨xs, .inl h, by rw [enD_len]; omega⟩
  yields := fun i H x H2 G d hd ⟨h, _, r⟩ y => by
    obtain ⟨T, w, ob, rfl, hn, rfl, ho, hw⟩ := y
    obtain ⟨d', hd', rfl⟩ := enD_get hd
    obtain ⟨v, e1, r1⟩ := r.get hd'
    have := hw xs (.inl h)
    rw [e1] at this; cases this
    exact pair_new hn ho (.int _) r1
  keep := fun ⟨h, g, r⟩ om go fr gg => ⟨rd_keep h fun o e => fr _ o (go _ g) e, by obtain ⟨o, e⟩ := rd_some h; exact gg _ _ g e, r.step om go fr gg⟩
theorem live_enT {a : Addr} {xs : List V} {ds : List PyData} (hl : xs.length = ds.length) : Live K (EnT K a) (enD ds) (fun G H => SqT K H a xs ∧ RFs K H G xs ds) where
  goes := fun i H G hi ⟨h, _⟩ => ⟨xs, xs[i]'(by rw [enD_len] at hi; omega), h, List.getElem?_eq_getElem _⟩
  stops := fun H G ⟨h, _⟩ => ⟨xs, h, by rw [enD_len]; omega⟩
  yields := fun i H x H2 G d hd ⟨h, r⟩ y => by
    obtain ⟨T, w, ob, rfl, hn, rfl, ho, hw⟩ := y
    obtain ⟨d', hd', rfl⟩ := enD_get hd
    obtain ⟨v, e1, r1⟩ := r.get hd'
    have := hw xs h
    rw [e1] at this; cases this
    exact pair_new hn ho (.int _) r1
  keep := fun ⟨h, r⟩ om go fr gg => ⟨sqt_keep h om fr, r.step om go fr gg⟩
end
def seqD : PyData → Option (List PyData)
  | .list ds => some ds
  | .tuple ds => some ds
  | _ => none
def dEn (f : Ev → Res) : Ev → Res := fun env => match dFr f env with
  | .ok (.own (.fz d)) e q => (match seqD d with
    | some ds => .ok (.own (.fz (.list (enD ds)))) e q
    | none => .stuck)
  | .ok _ _ _ => .stuck
  | .exn c e => .exn c e
  | .stuck => .stuck
/-- one argument, its value as a row -/
theorem pa_sz {X : Cx} {e : Expr} {t : TE} (h : PE X e t) (hs : starEach [e] X.env = [(false, eval e X.env)] := by rfl) : PA X [e] (fun σ H Q => t σ H fun v H' => (∀ a xs, v = .ref a → (SqL X.K H' a xs ∨ SqT X.K H' a xs) → xs.length ≤ SZ) → Q [v] H') := PA.imp (pa_cons (pe_sz h) pa_nil hs) fun σ H Q h => h
theorem si_enum {X : Cx} {elts : List Expr} {kk : Nat} {tpos p pos : Pos} {e : Expr} {f : Ev → Res} (hg : Gl X "enumerate") (hm : X.mg "enumerate" = none) (he : SE X f e) (hs : starEach [e] X.env = [(false, eval e X.env)] := by rfl) : SIT X (.Tuple elts kk tpos) (dEn f) (.Call (.Name "enumerate" p) [e] [] pos) := fun W tk => ⟨fun pins s σ H R I0 ⟨Z, O, env, I, h⟩ => by
  have he' := pa_sz (se_fr he W tk) hs
  unfold dEn at h
  cases ef : dFr f env with
  | stuck => rw [ef] at h; exact h.elim
  | exn c e1 =>
    rw [ef] at h
    refine (pi_enumL (elts := elts) (kk := kk) (tpos := tpos) (p := p) (pos := pos) hg hm he' hs).run pins s σ H R I0 ⟨Z, O, env, I, ?_⟩
    rw [ef]; exact h
  | ok x e1 q =>
    rw [ef] at h
    cases x with
    | vw m => exact h.elim
    | own m =>
      cases m with
      | lst _ => exact h.elim
      | tup _ => exact h.elim
      | dK _ _ => exact h.elim
      | dT _ _ => exact h.elim
      | fz d =>
        cases d with
        | list ds =>
          refine (pi_enumL (elts := elts) (kk := kk) (tpos := tpos) (p := p) (pos := pos) hg hm he' hs).run pins s σ H R I0 ⟨Z, O, env, I, ?_⟩
          rw [ef]
          intro v H' p1 sz
          obtain ⟨O', I', r, st, qu⟩ := p1.fz1
          cases r with
          | lst hq hgz rs => exact ⟨_, _, rfl, .inl hq, h _ H' O' _ I' st qu (by rw [enD_len, ← rs.length]; exact sz _ _ rfl (.inl (.inl hq))) (live_enL rs.length) ⟨hq, hgz, rs⟩⟩
        | tuple ds =>
          refine (pi_enumT (elts := elts) (kk := kk) (tpos := tpos) (p := p) (pos := pos) hg hm he' hs).run pins s σ H R I0 ⟨Z, O, env, I, ?_⟩
          rw [ef]
          intro v H' p1 sz
          obtain ⟨O', I', r, st, qu⟩ := p1.fz1
          cases r with
          | tup hq rs => exact ⟨_, _, rfl, hq.t, h _ H' O' _ I' st qu (by rw [enD_len, ← rs.length]; exact sz _ _ rfl (.inr hq.t)) (live_enT rs.length) ⟨hq.t, rs⟩⟩
        | none => exact h.elim
        | bool _ => exact h.elim
        | int _ => exact h.elim
        | str _ => exact h.elim
        | dict _ => exact h.elim⟩
end Q

set_option Elab.async false
set_option linter.all false
set_option maxRecDepth 100000
set_option maxHeartbeats 4000000
/-! A law's end; constants of the module. -/
namespace Q
open PySem PySem.Spec PyProof.Rows L2

def intObj (o : Obj) : Bool := match o.cls, o.data with
  | .type "list", .seq its _ => its.toList.all fun v => match v with
    | .int _ _ => true
    | _ => false
  | _, _ => false
def noInts (K : PySem.W.Frag) : Bool := K.all fun q => !intObj q.2
theorem vals_int : ∀ {ns : List Int} {us : List Value}, Vals (ns.map V.int) us → (us.all fun v => match v with | .int _ _ => true | _ => false) = true
  | [], _, .nil => rfl
  | n :: ns, _, .cons r t => by
    obtain ⟨k, rfl⟩ := r
    rw [List.all_cons, vals_int t]; rfl
theorem rd_ints {K : PySem.W.Frag} {H : Hp} {a : Addr} {ns : List Int} (h : SqL K H a (ns.map V.int)) (hk : noInts K = true) : L2.Rd H a (.lst (ns.map V.int)) := by
  rcases h with h | ⟨o, its, n, e, c, _, hd, _, hv⟩
  · exact h
  · have hm : (a, o) ∈ K := He.lookup_mem e
    have h1 := List.all_eq_true.mp hk (a, o) hm
    have h2 : intObj o = true := by
      unfold intObj
      rw [c, hd]
      exact vals_int hv
    rw [h2] at h1
    cases h1
theorem ints_rf {K : PySem.W.Frag} {H : Hp} {G : Addr → Prop} : ∀ ns : List Int, RFs K H G (ns.map V.int) (ns.map PyData.int)
  | [] => .nil
  | n :: ns => .cons (.int n) (ints_rf ns)
def scriptD (ns : List Int) : PyData := .list (ns.map PyData.int)
theorem law_sp {K : PySem.W.Frag} {mg : Str → Option Value} {N : List Str} {io : Nat → Bool} {den : Ev → Out} {H : Hp} {a : Addr} {ns : List Int} (hk : noInts K = true) (hS : SqL K H a (ns.map V.int)) (e' : Ev) (hd : den (startE N.length [.fz (scriptD ns)]) = .ret (.fz (.bool true)) e') :
    SpQ K mg N io 1 den [.ref a] H (fun v _ => v = .bl true) (fun _ _ _ => False) := by
  refine ⟨rfl, fun _ => False, [], startE N.length [.fz (scriptD ns)], si_start (.cons (F := []) (.fz (.lst (rd_ints hS hk) ⟨id, fun z => nomatch z⟩ (ints_rf ns))) .nil) List.Pairwise.nil (fun _ z => nomatch z) (fun _ z => z.elim), ?_⟩
  rw [hd]
  intro v σ' H' p
  obtain ⟨O2, F2, _, r, _⟩ := p.ex
  exact r.fzD.1.blI

/-! ### constants of the module -/
mutual
/-- the value is the datum, all its tuples stand in K -/
def kdB (K : PySem.W.Frag) : Nat → Value → PyData → Bool
  | 0, _, _ => false
  | n + 1, .none, d => match d with
    | .none => true
    | _ => false
  | n + 1, .bool b, d => match d with
    | .bool c => b == c
    | _ => false
  | n + 1, .int i _, d => match d with
    | .int j => decide (i = j)
    | _ => false
  | n + 1, .str x _, d => match d with
    | .str y => decide (x = y)
    | _ => false
  | n + 1, .ref a, d => match d with
    | .tuple ds => (match K.lookup a with
      | some ⟨.type "tuple", none, .seq its _, _⟩ => decide (its.size ≤ 1000) && kdsB K n its.toList ds
      | _ => false)
    | _ => false
  | _ + 1, _, _ => false
def kdsB (K : PySem.W.Frag) : Nat → List Value → List PyData → Bool
  | _, [], [] => true
  | 0, _, _ => false
  | n + 1, v :: vs, d :: ds => kdB K n v d && kdsB K n vs ds
  | _, _, _ => false
end
mutual
theorem kdB_ok {K : PySem.W.Frag} : ∀ {n : Nat} {v : Value} {d : PyData}, kdB K n v d = true → ∃ x, RelV x v ∧ ∀ H G, RF K H G x d
  | 0, _, _, h => by unfold kdB at h; cases h
  | n + 1, v, d, h => by
    unfold kdB at h
    split at h
    · rename_i hn; cases hn
    · split at h
      · exact ⟨.non, rfl, fun _ _ => .non⟩
      · cases h
    · split at h
      · rename_i b _ c _
        have e := beq_iff_eq.mp h
        subst e
        exact ⟨.bl b, rfl, fun _ _ => .bl b⟩
      · cases h
    · split at h
      · have e := of_decide_eq_true h
        subst e
        exact ⟨.int _, ⟨_, rfl⟩, fun _ _ => .int _⟩
      · cases h
    · split at h
      · have e := of_decide_eq_true h
        subst e
        exact ⟨.str _, ⟨_, rfl⟩, fun _ _ => .str _⟩
      · cases h
    · rename_i a _
      split at h
      · rename_i ds _
        split at h
        · rename_i its nn sl hl
          obtain ⟨h1, h2⟩ := Bool.and_eq_true_iff.mp h
          have h1 := of_decide_eq_true h1
          obtain ⟨xs, r1, r2⟩ := kdsB_ok h2
          exact ⟨.ref a, rfl, fun H G => .tup (.inr ⟨_, its, nn, hl, rfl, rfl, by rw [sizeLine_eq]; omega, r1, rfl⟩) (r2 H G)⟩
        · cases h
      · cases h
    · cases h
theorem kdsB_ok {K : PySem.W.Frag} : ∀ {n : Nat} {vs : List Value} {ds : List PyData}, kdsB K n vs ds = true → ∃ xs, Vals xs vs ∧ ∀ H G, RFs K H G xs ds
  | 0, [], [], _ => ⟨[], .nil, fun _ _ => .nil⟩
  | n + 1, [], [], _ => ⟨[], .nil, fun _ _ => .nil⟩
  | 0, _ :: _, _, h => by unfold kdsB at h; cases h
  | 0, [], _ :: _, h => by unfold kdsB at h; cases h
  | n + 1, v :: vs, d :: ds, h => by
    unfold kdsB at h
    obtain ⟨h1, h2⟩ := Bool.and_eq_true_iff.mp h
    obtain ⟨x, a1, a2⟩ := kdB_ok h1
    obtain ⟨xs, b1, b2⟩ := kdsB_ok h2
    exact ⟨x :: xs, .cons a1 b1, fun H G => .cons (a2 H G) (b2 H G)⟩
  | n + 1, _ :: _, [], h => by unfold kdsB at h; cases h
  | n + 1, [], _ :: _, h => by unfold kdsB at h; cases h
end
/-- the module's name x is the datum d -/
def conB (K : PySem.W.Frag) (x : Str) (d : PyData) : Bool := match PySem.W.nsIn K mainGlobals x with
  | some (some v) => kdB K 400 v d
  | _ => false
theorem con_ok {K : PySem.W.Frag} {h : Heap} {mg : Str → Option Value} (X : K.In h) (G : h.Ns mainGlobals mg) {x : Str} {d : PyData} (c : conB K x d = true) : ∃ u, mg x = some u ∧ KD K u d := by
  unfold conB at c
  cases e : PySem.W.nsIn K mainGlobals x with
  | none => rw [e] at c; cases c
  | some o =>
    rw [e] at c
    cases o with
    | none => cases c
    | some v => exact ⟨v, PySem.W.mg_of X G e, kdB_ok c⟩
/-- the constants of a program: names and data -/
def consB (K : PySem.W.Frag) (l : List (Str × PyData)) : Bool := l.all fun p => conB K p.1 p.2
theorem cons_ok {K : PySem.W.Frag} {h : Heap} {mg : Str → Option Value} {l : List (Str × PyData)} (X : K.In h) (G : h.Ns mainGlobals mg) (c : consB K l = true) : ∀ p ∈ l, ∃ u, mg p.1 = some u ∧ KD K u p.2 := fun p hp => con_ok X G (List.all_eq_true.mp c p hp)
end Q

set_option Elab.async false
set_option linter.all false
set_option maxRecDepth 100000
set_option maxHeartbeats 4000000
/-! Short forms for printed proofs. -/
namespace Q
open PySem PySem.Spec PyProof.Rows L2

def oNeg : List PyData → Option PyData
  | [.int i] => some (.int (-i))
  | _ => none
theorem und_neg {X : Cx} : UnD X (unaryOp .USub) oNeg := ⟨_, un_neg, fun v H Q ds d hd he k => by
  unfold oNeg at he
  split at he
  · cases he
    exact ⟨_, by rw [hd.one.intI], k _ fun G => .int _⟩
  · cases he⟩
section
variable {X : Cx} {io : Nat → Bool} {ql : Bool} {f g h t : Ev → Res} {a b c e : Expr} {x : Str} {pos p pos' : Pos}
theorem pk (i : Nat) (hN : X.N[i]? = some x := by rfl) (hv : Vis X.env.scope x := by first | exact Or.inl rfl | exact Or.inr (Or.inl rfl) | exact Or.inr (Or.inr rfl)) (hd : (x == ("__debug__" : Str)) = false := by decide)
    (hcd : (x == ("__classdict__" : Str)) = false := by decide) : SE X (dPk i) (.Name x pos) := se_pk hN hv hd hcd
theorem tk (i : Nat) (hN : X.N[i]? = some x := by rfl) (hv : Vis X.env.scope x := by first | exact Or.inl rfl | exact Or.inr (Or.inl rfl) | exact Or.inr (Or.inr rfl)) (hd : (x == ("__debug__" : Str)) = false := by decide)
    (hcd : (x == ("__classdict__" : Str)) = false := by decide) : SE X (dTk i) (.Name x pos) := se_tk hN hv hd hcd
theorem mv (i : Nat) (hN : X.N[i]? = some x := by rfl) (hv : Vis X.env.scope x := by first | exact Or.inl rfl | exact Or.inr (Or.inl rfl) | exact Or.inr (Or.inr rfl)) (hd : (x == ("__debug__" : Str)) = false := by decide)
    (hcd : (x == ("__classdict__" : Str)) = false := by decide) : SE X (dMv i) (.Name x pos) := se_mv hN hv hd hcd
theorem aio (s : Nat) {as : List Arg} {es : List Expr} (h2 : SAA X as es) (hN : X.N[s]? = some x := by rfl) (hv : Vis X.env.scope x := by first | exact Or.inl rfl | exact Or.inr (Or.inl rfl) | exact Or.inr (Or.inr rfl)) (hs : starEach (.Name x pos :: es) X.env = (false, eval (.Name x pos) X.env) :: starEach es X.env := by rfl)
    (hd : (x == ("__debug__" : Str)) = false := by decide) (hcd : (x == ("__classdict__" : Str)) = false := by decide) : SAA X (.io s :: as) (.Name x pos :: es) := saa_io hN hv h2 hs hd hcd
/-- a name as a target -/
theorem nm (i : Nat) (nd : X.N.Nodup) (hi : X.N[i]? = some x := by rfl) (hx : Loc X.env.scope x := by first | exact Or.inl rfl | exact Or.inr rfl) (hio : io i = false := by rfl) (hf : X.fn x = true ∨ X.env.scope.names.lookup x = some .local := by first | exact .inl rfl | exact .inr rfl) : SG X io ql (gNm i) (.Name x pos) :=
  sg_name nd hi hx hio hf
theorem set_ (i : Nat) (nd : X.N.Nodup) (he : SE X f e) (hi : X.N[i]? = some x := by rfl) (hx : Loc X.env.scope x := by first | exact Or.inl rfl | exact Or.inr rfl) (hio : io i = false := by rfl) (hs : swapsWith e (some (.Name x pos')) pos.line X.env = pure false := by rfl) (hf : X.fn x = true ∨ X.env.scope.names.lookup x = some .local := by first | exact .inl rfl | exact .inr rfl) :
    SS X io (dSet i f) (.Assign [.Name x pos'] e pos) := ss_set nd hi hx he hio hs hf
/-! values -/
theorem e_add (ha : SE X f a) (hb : SE X g b) : SE X (dG kAdd [f, g]) (.BinOp a .Add b pos) := se_binV opv_add ha hb
theorem e_mul (ha : SE X f a) (hb : SE X g b) : SE X (dG kMul [f, g]) (.BinOp a .Mult b pos) := se_binV opv_mul ha hb
theorem e_sub (ha : SE X f a) (hb : SE X g b) : SE X (dG (kPl oSub) [f, g]) (.BinOp a .Sub b pos) := se_binV opd_sub.v ha hb
theorem e_div (ha : SE X f a) (hb : SE X g b) : SE X (dG (kPl oFdiv) [f, g]) (.BinOp a .FloorDiv b pos) := se_binV opd_fdiv.v ha hb
theorem e_mod (ha : SE X f a) (hb : SE X g b) : SE X (dG (kPl oMod) [f, g]) (.BinOp a .Mod b pos) := se_binV opd_mod.v ha hb
theorem e_neg (ha : SE X f a) : SE X (dOp oNeg [f]) (.UnaryOp .USub a pos) := se_un und_neg ha
abbrev oLt := oI2b fun i j => decide (i < j)
abbrev oLe := oI2b fun i j => decide (i ≤ j)
abbrev oGt := oI2b fun i j => decide (j < i)
abbrev oGe := oI2b fun i j => decide (j ≤ i)
theorem cv {op : CmpOp} {o : List PyData → Option PyData} (ho : OpD X (compareOp op) o) (ha : SE X f a) (hb : SE X g b) (hm : behindInMarks op b = false := by first | exact nobehind _ (by decide) (by decide) | rfl) : SE X (dG (kPl o) [f, g]) (.Compare a [op] [b] pos) := se_cmpV ho.v ha hb hm
theorem ct {op : CmpOp} {o : List PyData → Option PyData} (ho : OpD X (compareOp op) o) (ha : SE X f a) (hb : SE X g b) (hm : behindInMarks op b = false := by first | exact nobehind _ (by decide) (by decide) | rfl) : ST X (dG (kPl o) [f, g]) (.Compare a [op] [b] pos) := st_cmp ho.v ha hb hm
theorem cvk {op : CmpOp} {k : List Val → Option (Val × Bool)} (ho : OpV X (compareOp op) k) (ha : SE X f a) (hb : SE X g b) (hm : behindInMarks op b = false := by first | exact nobehind _ (by decide) (by decide) | rfl) : SE X (dG k [f, g]) (.Compare a [op] [b] pos) := se_cmpV ho ha hb hm
theorem ctk {op : CmpOp} {k : List Val → Option (Val × Bool)} (ho : OpV X (compareOp op) k) (ha : SE X f a) (hb : SE X g b) (hm : behindInMarks op b = false := by first | exact nobehind _ (by decide) (by decide) | rfl) : ST X (dG k [f, g]) (.Compare a [op] [b] pos) := st_cmp ho ha hb hm
end
/-! ### a function of the module -/
structure HasF (P : Program) (w : World) (K : PySem.W.Frag) (mg : Str → Option Value) (base : Heap) (k : Nat) (x : Str) (ps N : List Str) (io : Nat → Bool) (den : Ev → Out) : Prop where
  ex : ∃ fd, FnQ P w K mg base k (He.ga K x) fd ps N io den ∧ Binds K fd ps [] ∧ (∀ (s : Shared) (us : List Value), us.length = ps.length → BindsTo s fd ⟨us, []⟩ (ps.zip us)) ∧ ∃ (oc : Value) (od : Option Addr) (osl : Array (Option Value)), K.lookup (He.ga K x) = some ⟨oc, od, .func fd, osl⟩
  gl : mg x = some (.ref (He.ga K x))
  kp : PySem.W.keepIn K (.ref (He.ga K x)) = true
theorem HasF.mono {P : Program} {w : World} {K : PySem.W.Frag} {mg : Str → Option Value} {base : Heap} {j k : Nat} {x : Str} {ps N : List Str} {io : Nat → Bool} {den : Ev → Out} (h : HasF P w K mg base j x ps N io den) (hl : j ≤ k) : HasF P w K mg base k x ps N io den := by
  obtain ⟨fd, a, b, b2⟩ := h.ex
  exact ⟨⟨fd, a.mono hl, b, b2⟩, h.gl, h.kp⟩
/-- the head's datum of a def of the module -/
def defAt (st : Stmt) (x : Str) : He.DefD := ⟨(x, none), x, x, defArgs st, defBody st, defScope st, [], []⟩
theorem hasF {P : Program} {w : World} {K : PySem.W.Frag} {h : Heap} {mg : Str → Option Value} {base : Heap} {fa : List He.Fa} {fn : List He.DefD} {x : Str} {st : Stmt} {ps N : List Str} {io : Nat → Bool} {den : Ev → Out} {k : Nat} (X : K.In h) (G : h.Ns mainGlobals mg) (c : He.SaysD fa fn K) (i j : Nat)
    (hi : fn[i]? = some (defAt st x)) (hj : fa[j]? = some (.glo x)) (S : FnScope N ps (defScope st))
    (hb : ∀ (kV doc pm : Value) (an : Option Addr) (cdv ct : Value) (us : List Value), us.length = ps.length → bindArgs (PySem.W.fnOf x x (defArgs st) (defBody st) (defScope st) .none kV doc pm an cdv ct) ⟨us, []⟩ = pure (ps.zip us))
    (body : ∀ (cdv : Value) (A : Around) (outer : List Env) (s : Shared) (H : Hp) (E : XK), Room k (A.deeper (envOfC x (defScope st) s.heap.objs.size (He.ga K x) cdv)) → SSs (cxOf (L2.CX P w) P w K mg base N x (defScope st) (He.ga K x) cdv A outer s H E) io den (defBody st)) : HasF P w K mg base (k + 1) x ps N io den := by
  obtain ⟨fd, F⟩ := c.def_ i hi
  have F : FunD K x x (defArgs st) (defBody st) (defScope st) [] [] (He.ga K x) fd := F
  exact ⟨⟨fd, fn_mkD F S body, F.bindsN hb, F.bindsA hb, by
    obtain ⟨oc, od, _, _, _, _, _, _, _, osl, _, lk, _⟩ := F.ex
    exact ⟨oc, od, osl, lk⟩⟩, He.glo_ok X G (c.fact j hj), F.kp⟩
section
variable {X : Cx} {k : Nat} {ps N : List Str} {io : Nat → Bool} {den : Ev → Out} {x : Str} {p pos : Pos} {e : Expr} {es : List Expr} {fs : List (Ev → Res)} {as : List Arg}
theorem call_ {n : Nat} (F : HasF X.prog X.w X.K X.mg X.base k x ps N io den) (hr : Room k X.A) (ha : SA X (evs fs) (e :: es)) (hg : Gl X x := by rfl) (hl : fs.length = ps.length := by rfl) (hn : N.length = n := by rfl)
    (hdb : (x == ("__debug__" : Str)) = false := by decide) (he : starEach (e :: es) X.env = (false, eval e X.env) :: starEach es X.env := by rfl) (hpl : (backTo pos (starEach es X.env)).any (·.1) = false := by rfl) :
    SE X (dCall n den fs) (.Call (.Name x p) (e :: es) [] pos) := by
  subst hn
  obtain ⟨fd, a, b, _⟩ := F.ex
  exact se_call a hr hg F.gl F.kp b ha hl hdb he hpl
theorem callI_ {n : Nat} (F : HasF X.prog X.w X.K X.mg X.base k x ps N io den) (hr : Room k X.A) (ha : SAA X as (e :: es)) (hio : io (ioPos as) = true := by rfl) (hg : Gl X x := by rfl) (hl : as.length = ps.length := by rfl) (hn : N.length = n := by rfl)
    (hdb : (x == ("__debug__" : Str)) = false := by decide) (he : starEach (e :: es) X.env = (false, eval e X.env) :: starEach es X.env := by rfl) (hpl : (backTo pos (starEach es X.env)).any (·.1) = false := by rfl) :
    SE X (dCallI n den as) (.Call (.Name x p) (e :: es) [] pos) := by
  subst hn
  obtain ⟨fd, a, b, _⟩ := F.ex
  exact se_callI a hr hg F.gl F.kp b ha hio hl hdb he hpl
theorem call0_go {K : PySem.W.Frag} {mg : Str → Option Value} {W : WX} {σ : L2.St} {H : Hp} {Q : VK} (h : TU K mg W (dCall N.length den []) σ H Q) : SpQ K mg N io 0 den ([] ++ []) H Q (WE W σ) := by
  have := tul_nil (call_go (io := io) h)
  exact this
/-- f() -/
def dCall0 (n : Nat) (den : Ev → Out) : Ev → Res := fun env => match dCall n den [] env with
  | .exn _ _ => .stuck
  | r => r
theorem tu_call0 {K : PySem.W.Frag} {mg : Str → Option Value} {W W' : WX} {n : Nat} {σ : L2.St} {H : Hp} {Q : VK} (h : TU K mg W (dCall0 n den) σ H Q) : TU K mg W' (dCall n den []) σ H Q := by
  obtain ⟨Z, O, env, I, h⟩ := h
  refine ⟨Z, O, env, I, ?_⟩
  unfold dCall0 at h
  cases e : dCall n den [] env with
  | stuck => rw [e] at h; exact h
  | exn c e1 => rw [e] at h; exact h.elim
  | ok x e1 q => rw [e] at h; exact h
theorem call0_ {n : Nat} (F : HasF X.prog X.w X.K X.mg X.base k x [] N io den) (hr : Room k X.A) (hg : Gl X x := by rfl) (hdb : (x == ("__debug__" : Str)) = false := by decide) (hn : N.length = n := by rfl) : SE X (dCall0 n den) (.Call (.Name x p) [] [] pos) := by
  subst hn
  obtain ⟨fd, a, b, _⟩ := F.ex
  exact fun W tk => PE.imp (pe_call0 a hr hg F.gl F.kp b .nil passL hdb) fun σ H Q h => call0_go (W := W0) (tu_call0 h)
end
end Q

set_option Elab.async false
set_option linter.all false
set_option maxRecDepth 100000
set_option maxHeartbeats 4000000
/-! More short forms. -/
namespace Q
open PySem PySem.Spec PyProof.Rows L2
theorem room65 {k : Nat} {A : Around} (r : Room k A) : A.units + 65 < cLine := by have := r.un; omega
theorem con_at {K : PySem.W.Frag} {h : Heap} {mg : Str → Option Value} {l : List (Str × PyData)} (X : K.In h) (G : h.Ns mainGlobals mg) (c : consB K l = true) (i : Nat) {x : Str} {d : PyData} (hi : l[i]? = some (x, d)) : ∃ u, mg x = some u ∧ KD K u d :=
  cons_ok X G c (x, d) (List.mem_of_getElem? hi)
theorem taker_nil {K : PySem.W.Frag} {mg : Str → Option Value} {c : Value} : TakerOk K mg [] c := fun _ h => nomatch h
theorem taker_cons {K : PySem.W.Frag} {mg : Str → Option Value} {c : Value} {x : Str} {a : Addr} {b : Bool} {t : Takers} (g : mg x = some (.ref a)) (m : PySem.W.exmOne K (.ref a) c = some b) (r : TakerOk K mg t c) : TakerOk K mg ((x, b) :: t) c := fun p hp C hC => by
  rcases List.mem_cons.mp hp with e | hp
  · subst e
    have := g.symm.trans hC
    cases this
    exact m
  · exact r p hp C hC
section
variable {X : Cx} {io : Nat → Bool} {ql : Bool} {f g h t : Ev → Res} {a b c e : Expr} {es : List Expr} {fs : List (Ev → Res)} {x : Str} {bid T : String} {k : List Val → Option (Val × Bool)} {pos p p2 pos' px : Pos}
theorem tup_ {k : Nat} (h : SA X (evs fs) es) (hl : fs.length ≤ 1000 := by exact Nat.le_of_ble_eq_true rfl) : SE X (dTup fs) (.Tuple es k pos) := se_tup h hl
theorem lst_ (h : SA X (evs fs) es) (hl : fs.length ≤ 1000 := by exact Nat.le_of_ble_eq_true rfl) : SE X (dLst fs) (.List es pos) := se_lst h hl
theorem sss_never {ss : List Stmt} : SSs X io (fun _ => .stuck) ss := fun W tk => PSs.imp pss_never fun D σ H ⟨_, _, _, _, h⟩ => h
theorem se_con {d : PyData} (hx : ∃ u, X.mg x = some u ∧ KD X.K u d) (hg : Gl X x := by rfl) (hd : (x == ("__debug__" : Str)) = false := by decide) : SE X (dLit d) (.Name x pos) := by
  obtain ⟨u, h1, h2⟩ := hx
  exact se_glob hg h1 h2 hd
theorem ix_ (ha : SE X f a) (hb : SE X g b) (hs : PlainIx b := by exact fun _ _ => rfl) : SE X (dIx f g) (.Subscript a b pos) := se_ix ha hb hs
theorem cB (hc : CallV X (.builtin bid) k) (ha : SA X (evs fs) (e :: es)) (hm : X.mg x = none) (hg : Gl X x := by rfl) (hv : bootBuiltins x = some (.builtin bid) := by rfl) (hn : x ≠ "__name__" := by decide) (hdb : (x == ("__debug__" : Str)) = false := by decide)
    (he : starEach (e :: es) X.env = (false, eval e X.env) :: starEach es X.env := by rfl) (hpl : (backTo pos (starEach es X.env)).any (·.1) = false := by rfl) : SE X (dG k fs) (.Call (.Name x p) (e :: es) [] pos) := se_callB hc hg hm hv ha hn hdb he hpl
theorem cT (hc : CallV X (.type T) k) (ha : SA X (evs fs) (e :: es)) (hm : X.mg x = none) (hg : Gl X x := by rfl) (hv : bootBuiltins x = some (.type T) := by rfl) (hn : x ≠ "__name__" := by decide) (hdb : (x == ("__debug__" : Str)) = false := by decide)
    (he : starEach (e :: es) X.env = (false, eval e X.env) :: starEach es X.env := by rfl) (hpl : (backTo pos (starEach es X.env)).any (·.1) = false := by rfl) : SE X (dG k fs) (.Call (.Name x p) (e :: es) [] pos) := se_callTy hc hg hm hv ha hn hdb he hpl
theorem isi_ (t : Ty) (he : SE X f e) (hm : X.mg "isinstance" = none) (hm2 : X.mg (Str.ofString t.n) = none) (hg : Gl X "isinstance" := by rfl) (hg2 : Gl X (Str.ofString t.n) := by rfl) (hv2 : bootBuiltins (Str.ofString t.n) = some (.type t.n) := by rfl)
    (hn : Str.ofString t.n ≠ "__name__" := by decide) (hd : (Str.ofString t.n == ("__debug__" : Str)) = false := by decide)
    (hs : starEach [e, .Name (Str.ofString t.n) p2] X.env = (false, eval e X.env) :: starEach [.Name (Str.ofString t.n) p2] X.env := by rfl) (hpl : (backTo pos (starEach [.Name (Str.ofString t.n) p2] X.env)).any (·.1) = false := by rfl) :
    SE X (dF id (kIsi t) [f]) (.Call (.Name "isinstance" p) [e, .Name (Str.ofString t.n) p2] [] pos) := se_isi t he hg hm hg2 hm2 hv2 hn hd hs hpl
theorem put (s : Nat) (hi : SE X f a) (hN : X.N[s]? = some x := by rfl) (hv : Vis X.env.scope x := by first | exact Or.inl rfl | exact Or.inr (Or.inl rfl) | exact Or.inr (Or.inr rfl)) (hd : (x == ("__debug__" : Str)) = false := by decide) (hcd : (x == ("__classdict__" : Str)) = false := by decide)
    (ha : ∀ v, assign (.Subscript (.Name x px) a pos) X.env v = (do
      let ov ← holding [v] (eval (.Name x px) X.env)
      let iv ← holding [v, ov] (eval a X.env)
      standAt pos
      holding [v, ov, iv] (setItem ov iv v)
      release [v, ov, iv] []) := by intro _; rfl) : SG X io false (gPut s f) (.Subscript (.Name x px) a pos) := sg_put hN hv hi hd hcd ha
theorem put2 (s : Nat) (hi : SE X f a) (hj : SE X g b) (hs : PlainIx a := by exact fun _ _ => rfl) (hN : X.N[s]? = some x := by rfl) (hv : Vis X.env.scope x := by first | exact Or.inl rfl | exact Or.inr (Or.inl rfl) | exact Or.inr (Or.inr rfl)) (hd : (x == ("__debug__" : Str)) = false := by decide) (hcd : (x == ("__classdict__" : Str)) = false := by decide)
    (ha : ∀ v, assign (.Subscript (.Subscript (.Name x px) a p2) b pos) X.env v = (do
      let ov ← holding [v] (eval (.Subscript (.Name x px) a p2) X.env)
      let iv ← holding [v, ov] (eval b X.env)
      standAt pos
      holding [v, ov, iv] (setItem ov iv v)
      release [v, ov, iv] []) := by intro _; rfl) : SG X io false (gPut2 s f g) (.Subscript (.Subscript (.Name x px) a p2) b pos) := sg_put2 hN hv hi hs hj hd hcd ha
end
/-- the law's walk, from the head's facts -/
theorem walk_Q {l : PySem.W.OpenLaw} {n k : Nat} {q : Program} {loose : List Str} {XP : (Str → Option Value) → Heap → Prop} {YP : World → Heap → Prop} {d : DefRec} {x : Str}
    (hn : l.most = some n) (hn2 : n ≤ sizeLine) (hdf : d.params.defaults = []) (hr : Room k callerA)
    (F : ∀ (w : World) (mg : Str → Option Value) (fa : Addr) (h : Heap), YP w h → h.Ns mainGlobals mg → mg d.name = some (.ref fa) →
      ∃ (K : PySem.W.Frag) (fd : FuncData) (sp : Sp), K.In h ∧ (∀ (s : Shared) (u : Value), BindsTo s fd ⟨[u], []⟩ [(x, u)]) ∧
        (∀ (H : Hp) (a : Addr) (ns : List Int), ns.length ≤ n → (∀ z ∈ ns, Builtin.Int.intBits z ≤ 1048576) → Only H → SqL K H a (ns.map V.int) → sp [.ref a] H (fun v _ => v = .bl true) fun _ _ _ => False) ∧
        ∀ base : Heap, K.In base → base.Ns mainGlobals mg → FnOk l.prog w K mg base (L2.CX l.prog w) k fa fd [x] sp) :
    PySem.W.WalkO q loose XP YP l.row.toRowW d [] (fun f vs => PySem.call f vs) := by
  refine Att.attach_callB hn hdf fun w s₀ s₁ mg mb fa o pm cd doc a vs ns T Y ho hd hcd hmg hobj hi hl hbits hgen => ?_
  obtain ⟨K, fd, sp, KX, hb, hsp, hF⟩ := F w mg fa _ Y T.T.g hmg
  exact law_call KX T.T.g T.T.b T.T.builtins T.T.nolimit hgen hobj hi (Nat.le_trans hl hn2) hr hF hb (fun H hO hS => hsp H a ns hl hbits hO hS) fun H e s' hx => by
    obtain ⟨_, _, _, _, _, _, _, _, _, _, _, _, z⟩ := hx
    exact z.elim
theorem law_F {l : PySem.W.OpenLaw} {P : Program} {w : World} {mg : Str → Option Value} {fa : Addr} {h : Heap} {fc : List He.Fa} {fn : List He.DefD} {ex : PySem.W.Frag → Bool} {n k : Nat} {N : List Str} {io : Nat → Bool} {den : Ev → Out} {cs : List (Str × PyData)} (Y : ∃ K : PySem.W.Frag, K.In h ∧ He.SaysX fc fn [] [] ex w h K) (G : h.Ns mainGlobals mg) (hmg : mg ("law" : Str) = some (.ref fa))
    (hex : ∀ K, ex K = true → noInts K = true ∧ consB K cs = true) (hF : ∀ (K : PySem.W.Frag), K.In h → He.SaysD fc fn K → consB K cs = true → ∀ base, HasF P w K mg base k "law" ["script"] N io den)
    (hd : ∀ ns : List Int, ns.length ≤ n → (∀ z ∈ ns, Builtin.Int.intBits z ≤ 1048576) → ∃ e, den (startE N.length [.fz (scriptD ns)]) = .ret (.fz (.bool true)) e) :
    ∃ (K : PySem.W.Frag) (fd : FuncData) (sp : Sp), K.In h ∧ (∀ (s : Shared) (u : Value), BindsTo s fd ⟨[u], []⟩ [("script", u)]) ∧
        (∀ (H : Hp) (a : Addr) (ns : List Int), ns.length ≤ n → (∀ z ∈ ns, Builtin.Int.intBits z ≤ 1048576) → Only H → SqL K H a (ns.map V.int) → sp [.ref a] H (fun v _ => v = .bl true) fun _ _ _ => False) ∧
        ∀ base : Heap, K.In base → base.Ns mainGlobals mg → FnOk P w K mg base (L2.CX P w) k fa fd ["script"] sp := by
  obtain ⟨K, KX, c⟩ := Y
  obtain ⟨h1, h2⟩ := hex K c.more
  obtain ⟨fd0, _, _, b0, oc0, od0, sl0, lk0⟩ := (hF K KX c.t.d h2 h).ex
  have ga := (hF K KX c.t.d h2 h).gl
  have e := hmg.symm.trans ga
  cases e
  obtain ⟨fd, F⟩ : ∃ fd, (∀ (s : Shared) (us : List Value), us.length = 1 → BindsTo s fd ⟨us, []⟩ ((["script"] : List Str).zip us)) ∧ ∀ base, FnQ P w K mg base k (He.ga K "law") fd ["script"] N io den := by
    refine ⟨fd0, b0, fun base => ?_⟩
    obtain ⟨fd1, f1, _, _, oc1, od1, sl1, lk1⟩ := (hF K KX c.t.d h2 base).ex
    rw [lk0] at lk1
    have e1 : fd0 = fd1 := by injection lk1 with e; injection e with _ _ e _; injection e
    rw [e1]
    exact f1
  exact ⟨K, fd, _, KX, fun s u => F.1 s [u] rfl, fun H a ns hl hb hO hS => by
    obtain ⟨e', he⟩ := hd ns hl hb
    exact law_sp h1 hS e' he, fun base _ _ => F.2 base⟩
end Q

set_option Elab.async false
set_option linter.all false
set_option maxRecDepth 100000
set_option maxHeartbeats 4000000
/-! What the denotations come to: plain Lean. -/
namespace Q
open PySem PySem.Spec PyProof.Rows L2

inductive OutR where
  | ret (m : M)
  | exn (c : Exn)
  | stuck
def outR : Out → OutR
  | .ret m _ => .ret m
  | .nx _ => .ret (.fz .none)
  | .exn c _ => .exn c
  | _ => .stuck
theorem dCall_eq (n : Nat) (den : Ev → Out) (fs : List (Ev → Res)) (env : Ev) : dCall n den fs env = match evs fs env with
  | .ok xs env1 q => (match argMs xs with
    | some (ms, v) => (match outR (den (startE n ms)) with
      | .ret m => if v = true ∧ noLM m = false then .stuck else .ok (.own m) env1 (qCall ms q)
      | .exn c => .exn c env1
      | .stuck => .stuck)
    | none => .stuck)
  | .exn c e => .exn c e
  | .stuck => .stuck := by
  unfold dCall
  cases evs fs env with
  | stuck => rfl
  | exn c e => rfl
  | ok xs env1 q =>
    simp only []
    cases argMs xs with
    | none => rfl
    | some mv =>
      obtain ⟨ms, v⟩ := mv
      simp only []
      cases den (startE n ms) with
      | ret m e =>
        cases v with
        | false => simp [outR, retR]
        | true => cases h : noLM m <;> simp [outR, retR, h]
      | nx e => cases v <;> simp [outR, noLM, noL]
      | exn c e => rfl
      | stuck => rfl
      | brk e => rfl
      | ct e => rfl
/-- a quiet evaluation -/
def YQ (f : Ev → Res) (env : Ev) (x : Val) : Prop := ∃ q, f env = .ok x env q ∧ q ≠ .l
def YQs (fs : List (Ev → Res)) (env : Ev) (xs : List Val) : Prop := ∃ q, evs fs env = .ok xs env q ∧ q ≠ .l
theorem jnl {a b : Ql} (h1 : a ≠ .l) (h2 : b ≠ .l) : a.j b ≠ .l := by cases a <;> cases b <;> simp_all [Ql.j]
theorem nnl {a : Ql} (h1 : a ≠ .l) : a.n ≠ .l := by cases a <;> simp_all [Ql.n]
theorem fnl {a : Ql} {b : Bool} (h1 : a ≠ .l) : a.f b ≠ .l := by cases b <;> cases a <;> simp_all [Ql.f, Ql.n]
theorem ys_nil {env : Ev} : YQs [] env [] := ⟨.p, rfl, by simp⟩
theorem ys_cons {f : Ev → Res} {fs : List (Ev → Res)} {env : Ev} {x : Val} {xs : List Val} (h1 : YQ f env x) (h2 : YQs fs env xs) : YQs (f :: fs) env (x :: xs) := by
  obtain ⟨q1, e1, n1⟩ := h1
  obtain ⟨q2, e2, n2⟩ := h2
  refine ⟨q1.j q2, ?_, jnl n1 n2⟩
  unfold evs
  rw [e1]
  simp only [e2]
  cases x <;> cases q2 <;> simp_all
theorem yq_lit {d : PyData} {env : Ev} : YQ (dLit d) env (.own (.fz d)) := ⟨.p, rfl, by simp⟩
theorem yq_pk {i : Nat} {d : PyData} {env : Ev} (h : env[i]? = some (some (.fz d)) := by rfl) : YQ (dPk i) env (.own (.fz d)) := ⟨.p, by unfold dPk; rw [h], by simp⟩
theorem yq_tk {i : Nat} {d : PyData} {env : Ev} (h : env[i]? = some (some (.fz d)) := by rfl) : YQ (dTk i) env (.own (.fz d)) := ⟨.p, by unfold dTk; rw [h], by simp⟩
theorem yq_vw {i : Nat} {ms : List M} {env : Ev} (h : env[i]? = some (some (.lst ms)) := by rfl) : YQ (dPk i) env (.vw (.lst ms)) := ⟨.p, by unfold dPk; rw [h], by simp⟩
theorem yq_G {k : List Val → Option (Val × Bool)} {fs : List (Ev → Res)} {env : Ev} {xs : List Val} {y : Val} {b : Bool} (h : YQs fs env xs) (hk : k xs = some (y, b)) : YQ (dG k fs) env y := by
  obtain ⟨q, e, n⟩ := h
  exact ⟨q.f b, by unfold dG; rw [e]; simp only [hk], fnl n⟩
theorem yq_Fi {k : List Val → Option Val} {fs : List (Ev → Res)} {env : Ev} {xs : List Val} {y : Val} (h : YQs fs env xs) (hk : k xs = some y) : YQ (dF id k fs) env y := by
  obtain ⟨q, e, n⟩ := h
  exact ⟨q, by unfold dF; rw [e]; simp only [hk]; rfl, n⟩
theorem yq_Fn {k : List Val → Option Val} {fs : List (Ev → Res)} {env : Ev} {xs : List Val} {y : Val} (h : YQs fs env xs) (hk : k xs = some y) : YQ (dF Ql.n k fs) env y := by
  obtain ⟨q, e, n⟩ := h
  exact ⟨q.n, by unfold dF; rw [e]; simp only [hk], nnl n⟩
theorem yq_if {t f g : Ev → Res} {env : Ev} {b : Bool} {x : Val} (ht : YQ t env (.own (.fz (.bool b)))) (h1 : b = true → YQ f env x) (h2 : b = false → YQ g env x) : YQ (dIf t f g) env x := by
  obtain ⟨q, e, n⟩ := ht
  cases b with
  | true =>
    obtain ⟨q2, e2, n2⟩ := h1 rfl
    exact ⟨q.j q2, by unfold dIf; rw [e]; simp only [e2, Res.q], jnl n n2⟩
  | false =>
    obtain ⟨q2, e2, n2⟩ := h2 rfl
    exact ⟨q.j q2, by unfold dIf; rw [e]; simp only [e2, Res.q], jnl n n2⟩
theorem yq_and {f g : Ev → Res} {env : Ev} {a b : Bool} (h1 : YQ f env (.own (.fz (.bool a)))) (h2 : a = true → YQ g env (.own (.fz (.bool b)))) : YQ (dAndV f g) env (.own (.fz (.bool (a && b)))) := by
  obtain ⟨q, e, n⟩ := h1
  cases a with
  | true =>
    obtain ⟨q2, e2, n2⟩ := h2 rfl
    exact ⟨q.j q2, by unfold dAndV; rw [e]; simp [e2, Res.q, truthV], jnl n n2⟩
  | false => exact ⟨q, by unfold dAndV; rw [e]; simp [truthV], n⟩
theorem yq_or {f g : Ev → Res} {env : Ev} {a b : Bool} (h1 : YQ f env (.own (.fz (.bool a)))) (h2 : a = false → YQ g env (.own (.fz (.bool b)))) : YQ (dOrV f g) env (.own (.fz (.bool (a || b)))) := by
  obtain ⟨q, e, n⟩ := h1
  cases a with
  | false =>
    obtain ⟨q2, e2, n2⟩ := h2 rfl
    exact ⟨q.j q2, by unfold dOrV; rw [e]; simp [e2, Res.q, truthV], jnl n n2⟩
  | true => exact ⟨q, by unfold dOrV; rw [e]; simp [truthV], n⟩
theorem yq_fr {f : Ev → Res} {env : Ev} {m : M} {d : PyData} (h : YQ f env (.own m)) (hd : frz m = some d) : YQ (dFr f) env (.own (.fz d)) := by
  obtain ⟨q, e, n⟩ := h
  exact ⟨q, by unfold dFr; rw [e]; simp only [hd], n⟩
theorem yq_it {f : Ev → Res} {env : Ev} {m : M} {d : PyData} {ds : List PyData} (h : YQ f env (.own m)) (hd : frz m = some d) (hi : itemsOf d = some ds) : YQ (dIt f) env (.own (.fz (.list ds))) := by
  obtain ⟨q, e, n⟩ := yq_fr h hd
  exact ⟨q, by unfold dIt; rw [e]; simp only [hi], n⟩
theorem yq_call {n : Nat} {den : Ev → Out} {fs : List (Ev → Res)} {env : Ev} {xs : List Val} {ms : List M} {v : Bool} {m : M} (h : YQs fs env xs) (ha : argMs xs = some (ms, v)) (hz : allFz ms = true) (hr : outR (den (startE n ms)) = .ret m) (hv : v = true → noLM m = true) : YQ (dCall n den fs) env (.own m) := by
  obtain ⟨q, e, nq⟩ := h
  refine ⟨qCall ms q, ?_, ?_⟩
  · rw [dCall_eq, e]
    simp only [ha, hr]
    rw [if_neg]
    rintro ⟨z, z2⟩
    rw [hv z] at z2; cases z2
  · unfold qCall; rw [hz]; exact nnl nq
/-- the comprehension's run, nothing changed by it -/
theorem runC_q {p : Tg} {t f : Ev → Res} {vs : List Nat} {env : Ev} (b : PyData → Bool) (g : PyData → M) : ∀ {ds : List PyData}, (∀ d ∈ ds, ∃ e1, p d env = some e1 ∧ YQ t e1 (.own (.fz (.bool (b d)))) ∧ (b d = true → YQ f e1 (.own (g d))) ∧ wipeE e1 vs = env) →
    ∃ q, runC p t f vs ds env = some ((ds.filter b).map g, env, q) ∧ q ≠ .l
  | [], _ => ⟨.p, rfl, by simp⟩
  | d :: ds, h => by
    obtain ⟨e1, h1, ⟨q1, h2, n1⟩, h3, h4⟩ := h d List.mem_cons_self
    obtain ⟨q, e, n⟩ := runC_q b g (ds := ds) fun x hx => h x (List.mem_cons_of_mem _ hx)
    unfold runC
    simp only [h1, h2]
    cases hb : b d with
    | true =>
      obtain ⟨q3, h5, n3⟩ := h3 hb
      refine ⟨(q1.j q3).j q, ?_, jnl (jnl n1 n3) n⟩
      simp only [h5, h4, e, Option.map_some, List.filter_cons, hb, if_true, List.map_cons]
    | false =>
      refine ⟨q1.j q, ?_, jnl n1 n⟩
      simp only [h4, e, Option.map_some, List.filter_cons, hb]
      simp
theorem yq_lc {p : Tg} {src t f : Ev → Res} {vs : List Nat} {env : Ev} {ds : List PyData} (env0 : Ev) (b : PyData → Bool) (g : PyData → M) (hs : YQ src env (.own (.fz (.list ds))))
    (he : ∀ d ∈ ds, ∃ e1, p d env0 = some e1 ∧ YQ t e1 (.own (.fz (.bool (b d)))) ∧ (b d = true → YQ f e1 (.own (g d))) ∧ wipeE e1 vs = env0) (hc : vs.all (calmAt env) = true := by rfl) (hw : wipeE env vs = env0 := by rfl) (hr : restE env0 env vs = env := by rfl) :
    YQ (dLc p src t f vs) env (.own (.lst ((ds.filter b).map g))) := by
  obtain ⟨q, e, n⟩ := hs
  obtain ⟨q2, e2, n2⟩ := runC_q (p := p) (t := t) (f := f) b g he
  refine ⟨(q.j q2).n, ?_, nnl (jnl n n2)⟩
  unfold dLc
  rw [e]
  simp only [hc, if_true, hw, e2, hr]
/-- no test -/
theorem yq_lc0 {p : Tg} {src f : Ev → Res} {vs : List Nat} {env : Ev} {ds : List PyData} (env0 : Ev) (g : PyData → M) (hs : YQ src env (.own (.fz (.list ds))))
    (he : ∀ d ∈ ds, ∃ e1, p d env0 = some e1 ∧ YQ f e1 (.own (g d)) ∧ wipeE e1 vs = env0) (hc : vs.all (calmAt env) = true := by rfl) (hw : wipeE env vs = env0 := by rfl) (hr : restE env0 env vs = env := by rfl) :
    YQ (dLc p src (dLit (.bool true)) f vs) env (.own (.lst (ds.map g))) := by
  have h := yq_lc (p := p) (f := f) (t := dLit (.bool true)) env0 (fun _ => true) g hs (fun d hd => by
    obtain ⟨e1, h1, h2, h3⟩ := he d hd
    exact ⟨e1, h1, yq_lit, fun _ => h2, h3⟩) hc hw hr
  have e : ds.filter (fun _ => true) = ds := List.filter_eq_self.mpr (by simp)
  rw [e] at h
  exact h
theorem frzs_fz (ds : List PyData) : frzs (ds.map M.fz) = some ds := by
  induction ds with
  | nil => rfl
  | cons d ds ih => simp [frzs, frz, ih]
theorem frz_lst (ds : List PyData) : frz (.lst (ds.map M.fz)) = some (.list ds) := by simp [frz, frzs_fz]
/-- what is returned -/
theorem out_ret {f : Ev → Res} {env : Ev} {m : M} (h : YQ f env (.own m)) : outR (dRet f env) = .ret m := by
  obtain ⟨q, e, _⟩ := h
  unfold dRet; rw [e]; rfl
theorem out_if {t : Ev → Res} {a b : Ev → Out} {env : Ev} {c : Bool} (h : YQ t env (.own (.fz (.bool c)))) : dIfS t a b env = if c = true then a env else b env := by
  obtain ⟨q, e, _⟩ := h
  unfold dIfS; rw [e]; cases c <;> rfl
theorem out_seq_ret {a b : Ev → Out} {env e : Ev} {m : M} (h : a env = .ret m e) : dSeq a b env = .ret m e := by unfold dSeq; rw [h]
theorem out_seq {a b : Ev → Out} {env e : Ev} (h : a env = .nx e) : dSeq a b env = b e := by unfold dSeq; rw [h]
theorem out_set {i : Nat} {f : Ev → Res} {env : Ev} {m : M} (h : YQ f env (.own m)) (hi : i < env.length) : dSet i f env = .nx (env.set i (some m)) := by
  obtain ⟨q, e, _⟩ := h
  unfold dSet; rw [e]; simp only [put1, if_pos hi]
theorem out_ex {f : Ev → Res} {env : Ev} {x : Val} (h : YQ f env x) : dEx f env = .nx env := by
  obtain ⟨q, e, _⟩ := h
  unfold dEx; rw [e]
end Q

set_option Elab.async false
set_option linter.all false
set_option maxRecDepth 100000
set_option maxHeartbeats 4000000
/-! The laws' draws. -/
namespace Q
open PySem PySem.Spec PyProof.Rows L2

theorem yq_ix {f g : Ev → Res} {env : Ev} {x y : Val} {i : Int} (h1 : YQ f env x) (h2 : YQ g env (.own (.fz (.int i)))) (hy : ixV x i = some y) : YQ (dIx f g) env y :=
  yq_Fi (ys_cons h1 (ys_cons h2 ys_nil)) (by unfold kIx; exact hy)
theorem out_put {s : Nat} {fi f : Ev → Res} {env : Ev} {k : Int} {d : PyData} {ms : List M} {j : Nat} (h : YQ f env (.own (.fz d))) (hi : YQ fi env (.own (.fz (.int k)))) (hs : env[s]? = some (some (.lst ms))) (hj : ixN ms.length k = some j) :
    dAsg (gPut s fi) f env = .nx (env.set s (some (.lst (ms.set j (.fz d))))) := by
  obtain ⟨q, e, _⟩ := yq_fr h (m := .fz d) rfl
  obtain ⟨q2, e2, _⟩ := hi
  unfold dAsg gPut
  rw [e]
  simp only [held1, hs, if_true, e2, intE, wrAt, M.wr, setD, hj, Option.map_some]
/-- two ints, or one -/
theorem kpl2 {o : List PyData → Option PyData} {a b d : PyData} (h : o [a, b] = some d) : kPl o [.own (.fz a), .own (.fz b)] = some (.own (.fz d), false) := by
  unfold kPl valDs valD frz valDs valD frz valDs
  simp [h]
theorem kpl1 {o : List PyData → Option PyData} {a d : PyData} (h : o [a] = some d) : kPl o [.own (.fz a)] = some (.own (.fz d), false) := by
  unfold kPl valDs valD frz valDs
  simp [h]
section
variable {f g : Ev → Res} {env : Ev} {i j : Int} {a b d : PyData}
theorem y1 (h : YQ f env (.own (.fz a))) : YQs [f] env [.own (.fz a)] := ys_cons h ys_nil
theorem y2 (h : YQ f env (.own (.fz a))) (h2 : YQ g env (.own (.fz b))) : YQs [f, g] env [.own (.fz a), .own (.fz b)] := ys_cons h (y1 h2)
theorem yq_p2 {o : List PyData → Option PyData} (h : YQ f env (.own (.fz a))) (h2 : YQ g env (.own (.fz b))) (ho : o [a, b] = some d) : YQ (dG (kPl o) [f, g]) env (.own (.fz d)) := yq_G (y2 h h2) (kpl2 ho)
theorem yq_p1 {o : List PyData → Option PyData} (h : YQ f env (.own (.fz a))) (ho : o [a] = some d) : YQ (dG (kPl o) [f]) env (.own (.fz d)) := yq_G (y1 h) (kpl1 ho)
theorem yq_add (h : YQ f env (.own (.fz (.int i)))) (h2 : YQ g env (.own (.fz (.int j)))) : YQ (dG kAdd [f, g]) env (.own (.fz (.int (i + j)))) := yq_G (b := false) (y2 h h2) (by
  unfold kAdd kAddP; rw [kpl2 (d := .int (i + j)) rfl]; rfl)
theorem yq_mul (h : YQ f env (.own (.fz (.int i)))) (h2 : YQ g env (.own (.fz (.int j)))) (hm : mulOk i j = true) : YQ (dG kMul [f, g]) env (.own (.fz (.int (i * j)))) := yq_G (b := false) (y2 h h2) (by
  unfold kMul kMulP; rw [kpl2 (d := .int (i * j)) (by unfold oMulI oI2; simp [hm])]; rfl)
theorem yq_sub (h : YQ f env (.own (.fz (.int i)))) (h2 : YQ g env (.own (.fz (.int j)))) : YQ (dG (kPl oSub) [f, g]) env (.own (.fz (.int (i - j)))) := yq_p2 h h2 rfl
theorem yq_mod (h : YQ f env (.own (.fz (.int i)))) (h2 : YQ g env (.own (.fz (.int j)))) (hj : 0 < j) : YQ (dG (kPl oMod) [f, g]) env (.own (.fz (.int (i % j)))) := yq_p2 h h2 (by
  have h0 : decide (j ≠ 0) = true := decide_eq_true (by omega)
  simp only [oMod, oI2, h0, if_true, Int.fmod_eq_emod_of_nonneg _ (show 0 ≤ j by omega)])
theorem yq_div (h : YQ f env (.own (.fz (.int i)))) (h2 : YQ g env (.own (.fz (.int j)))) (hj : 0 < j) (hl : j.natAbs.log2 < 9000) : YQ (dG (kPl oFdiv) [f, g]) env (.own (.fz (.int (i / j)))) := yq_p2 h h2 (by
  have h0 : divOk i j = true := by unfold divOk; simp [hl]; omega
  simp only [oFdiv, oI2, h0, if_true, Int.fdiv_eq_ediv_of_nonneg _ (show 0 ≤ j by omega)])
theorem yq_int (h : YQ f env (.own (.fz (.int i)))) : YQ (dG (kPl oInt) [f]) env (.own (.fz (.int i))) := yq_p1 h rfl
theorem yq_abs (h : YQ f env (.own (.fz (.int i)))) : YQ (dG (kPl oAbs) [f]) env (.own (.fz (.int (i.natAbs : Nat)))) := yq_p1 h (by
  unfold oAbs; simp only []; congr 2; split <;> omega)
theorem yq_eqi (h : YQ f env (.own (.fz (.int i)))) (h2 : YQ g env (.own (.fz (.int j)))) : YQ (dG (kPl oEq) [f, g]) env (.own (.fz (.bool (decide (i = j))))) := yq_p2 h h2 (by
  unfold oEq; simp [eqOk, scalP, scalD, PyData.eqv]; rfl)
theorem yq_nei (h : YQ f env (.own (.fz (.int i)))) (h2 : YQ g env (.own (.fz (.int j)))) : YQ (dG (kPl oNe) [f, g]) env (.own (.fz (.bool (decide (i ≠ j))))) := yq_p2 h h2 (by
  unfold oNe; simp [eqOk, scalP, scalD, PyData.eqv]; rfl)
theorem yq_lt (h : YQ f env (.own (.fz (.int i)))) (h2 : YQ g env (.own (.fz (.int j)))) : YQ (dG (kPl oLt) [f, g]) env (.own (.fz (.bool (decide (i < j))))) := yq_p2 h h2 rfl
theorem yq_le (h : YQ f env (.own (.fz (.int i)))) (h2 : YQ g env (.own (.fz (.int j)))) : YQ (dG (kPl oLe) [f, g]) env (.own (.fz (.bool (decide (i ≤ j))))) := yq_p2 h h2 rfl
theorem yq_gt (h : YQ f env (.own (.fz (.int i)))) (h2 : YQ g env (.own (.fz (.int j)))) : YQ (dG (kPl oGt) [f, g]) env (.own (.fz (.bool (decide (j < i))))) := yq_p2 h h2 rfl
theorem yq_len {x : Val} {n : Nat} (h : YQ f env x) (hl : lenV x = some n) : YQ (dG kLen [f]) env (.own (.fz (.int n))) := yq_G (b := false) (ys_cons h ys_nil) (by simp only [kLen, hl, Option.map_some]; rfl)
theorem yq_isi {t : Ty} {x : Val} {c : Bool} (h : YQ f env x) (hc : isiV t x = some c) : YQ (dF id (kIsi t) [f]) env (.own (.fz (.bool c))) := yq_Fi (ys_cons h ys_nil) (by simp only [kIsi, hc, Option.map_some])
theorem yq_tru {x : Val} {c : Bool} (h : YQ f env x) (hc : truthV x = some c) : YQ (dTru f) env (.own (.fz (.bool c))) := yq_Fi (ys_cons h ys_nil) (by simp only [kTru, hc, Option.map_some])
theorem yq_not {c : Bool} (h : YQ f env (.own (.fz (.bool c)))) : YQ (dIf f (dLit (.bool false)) (dLit (.bool true))) env (.own (.fz (.bool (!c)))) := yq_if h (fun e => by subst e; exact yq_lit) (fun e => by subst e; exact yq_lit)
theorem yq_orT {a b : Bool} (h : YQ f env (.own (.fz (.bool a)))) (h2 : a = false → YQ g env (.own (.fz (.bool b)))) : YQ (dIf f (dLit (.bool true)) g) env (.own (.fz (.bool (a || b)))) := yq_if h (fun e => by subst e; exact yq_lit) (fun e => by subst e; exact h2 rfl)
theorem yq_andT {a b : Bool} (h : YQ f env (.own (.fz (.bool a)))) (h2 : a = true → YQ g env (.own (.fz (.bool b)))) : YQ (dIf f g (dLit (.bool false))) env (.own (.fz (.bool (a && b)))) := yq_if h (fun e => by subst e; exact h2 rfl) (fun e => by subst e; exact yq_lit)
end
/-! ### draws -/
structure Dr where
  cs : List Int
  at_ : Int
  hv : Int
  sd : Int
def Dr.m (D : Dr) : M := .lst [.fz (.list (D.cs.map .int)), .fz (.int D.at_), .fz (.int D.hv), .fz (.int D.sd)]
structure Dr.Ok (D : Dr) : Prop where
  at_ : -1 ≤ D.at_
  hv : 0 ≤ D.hv
  sd : 0 ≤ D.sd
  sd2 : D.sd < 2147483647
  cs : ∀ c ∈ D.cs, 0 ≤ c
def takeDen : Ev → Out :=
  dSeq (dIfS (dG (kPl oEq) [dIx (dPk 0) (dLit (.int 2)), dLit (.int 0)]) (dSeq (dAsg (gPut 0 (dLit (.int 1))) (dG kAdd [dIx (dPk 0) (dLit (.int 1)), dLit (.int 1)]))
    (dSeq (dIfS (dG (kPl oLt) [dIx (dPk 0) (dLit (.int 1)), dG (kLen) [dIx (dPk 0) (dLit (.int 0))]]) (dAsg (gPut 0 (dLit (.int 2))) (dIx (dIx (dPk 0) (dLit (.int 0))) (dIx (dPk 0) (dLit (.int 1))))) (dNx))
    (dIfS (dG (kPl oEq) [dIx (dPk 0) (dLit (.int 2)), dLit (.int 0)]) (dSeq (dAsg (gPut 0 (dLit (.int 3))) (dG (kPl oMod) [dG (kPl oInt) [dG kAdd [dG kMul [dIx (dPk 0) (dLit (.int 3)), dLit (.int 48271)], dLit (.int 11)]], dLit (.int 2147483647)]))
    (dAsg (gPut 0 (dLit (.int 2))) (dIx (dPk 0) (dLit (.int 3))))) (dNx)))) (dNx))
    (dSeq (dSet 2 (dG (kPl oMod) [dG (kPl oInt) [dIx (dPk 0) (dLit (.int 2))], dPk 1]))
    (dSeq (dAsg (gPut 0 (dLit (.int 2))) (dG (kPl oFdiv) [dIx (dPk 0) (dLit (.int 2)), dPk 1]))
    (dRet (dTk 2))))
abbrev tkE (D : Dr) (m : Int) (r : Option M) : Ev := [some D.m, some (.fz (.int m)), r]
section
variable {D : Dr} {m : Int} {r : Option M}
theorem dr0 : YQ (dIx (dPk 0) (dLit (.int 0))) (tkE D m r) (.own (.fz (.list (D.cs.map .int)))) := yq_ix (yq_vw rfl) yq_lit rfl
theorem dr1 : YQ (dIx (dPk 0) (dLit (.int 1))) (tkE D m r) (.own (.fz (.int D.at_))) := yq_ix (yq_vw rfl) yq_lit rfl
theorem dr2 : YQ (dIx (dPk 0) (dLit (.int 2))) (tkE D m r) (.own (.fz (.int D.hv))) := yq_ix (yq_vw rfl) yq_lit rfl
theorem dr3 : YQ (dIx (dPk 0) (dLit (.int 3))) (tkE D m r) (.own (.fz (.int D.sd))) := yq_ix (yq_vw rfl) yq_lit rfl
theorem put1_ {f : Ev → Res} {x : Int} (h : YQ f (tkE D m r) (.own (.fz (.int x)))) : dAsg (gPut 0 (dLit (.int 1))) f (tkE D m r) = .nx (tkE { D with at_ := x } m r) := by
  have z := out_put (s := 0) (ms := [.fz (.list (D.cs.map .int)), .fz (.int D.at_), .fz (.int D.hv), .fz (.int D.sd)]) (j := 1) (fi := dLit (.int 1)) h yq_lit rfl rfl
  exact z
theorem put2_ {f : Ev → Res} {x : Int} (h : YQ f (tkE D m r) (.own (.fz (.int x)))) : dAsg (gPut 0 (dLit (.int 2))) f (tkE D m r) = .nx (tkE { D with hv := x } m r) := by
  have z := out_put (s := 0) (ms := [.fz (.list (D.cs.map .int)), .fz (.int D.at_), .fz (.int D.hv), .fz (.int D.sd)]) (j := 2) (fi := dLit (.int 2)) h yq_lit rfl rfl
  exact z
theorem put3_ {f : Ev → Res} {x : Int} (h : YQ f (tkE D m r) (.own (.fz (.int x)))) : dAsg (gPut 0 (dLit (.int 3))) f (tkE D m r) = .nx (tkE { D with sd := x } m r) := by
  have z := out_put (s := 0) (ms := [.fz (.list (D.cs.map .int)), .fz (.int D.at_), .fz (.int D.hv), .fz (.int D.sd)]) (j := 3) (fi := dLit (.int 3)) h yq_lit rfl rfl
  exact z
end
theorem mul_small {i : Int} (h0 : 0 ≤ i) (h : i < 2147483647) : mulOk i 48271 = true := by
  unfold mulOk
  apply decide_eq_true
  have h1 : i.natAbs.log2 < 31 := by
    rcases Nat.eq_zero_or_pos i.natAbs with e | e
    · rw [e]; decide
    · rw [Nat.log2_lt (by omega)]; omega
  have h2 : (48271 : Int).natAbs.log2 = 15 := by decide
  omega
theorem take_den {D : Dr} (ok : D.Ok) {m : Int} (h1 : 1 ≤ m) (hm : m.natAbs.log2 < 9000) : ∃ x D2, 0 ≤ x ∧ x < m ∧ Dr.Ok D2 ∧ takeDen (tkE D m none) = .ret (.fz (.int x)) (tkE D2 m (some (.fz (.int x)))) := by
  -- behind the filling
  have last : ∀ {D : Dr}, D.Ok → ∃ x D2, 0 ≤ x ∧ x < m ∧ Dr.Ok D2 ∧ dSeq (dSet 2 (dG (kPl oMod) [dG (kPl oInt) [dIx (dPk 0) (dLit (.int 2))], dPk 1])) (dSeq (dAsg (gPut 0 (dLit (.int 2))) (dG (kPl oFdiv) [dIx (dPk 0) (dLit (.int 2)), dPk 1])) (dRet (dTk 2))) (tkE D m none) = .ret (.fz (.int x)) (tkE D2 m (some (.fz (.int x)))) := fun {D} ok => by
    refine ⟨D.hv % m, { D with hv := D.hv / m }, Int.emod_nonneg _ (by omega), Int.emod_lt_of_pos _ (by omega), ⟨ok.at_, Int.ediv_nonneg ok.hv (by omega), ok.sd, ok.sd2, ok.cs⟩, ?_⟩
    rw [out_seq (out_set (yq_mod (yq_int dr2) (yq_pk rfl) (by omega)) (show 2 < 3 by decide))]
    show dSeq _ _ (tkE D m (some (.fz (.int (D.hv % m))))) = _
    rw [out_seq (put2_ (yq_div dr2 (yq_pk rfl) (by omega) hm))]
    rfl
  unfold takeDen
  by_cases hz : D.hv = 0
  · have step : ∀ {D : Dr}, D.Ok → ∃ D2, Dr.Ok D2 ∧ dIfS (dG (kPl oEq) [dIx (dPk 0) (dLit (.int 2)), dLit (.int 0)]) (dSeq (dAsg (gPut 0 (dLit (.int 3))) (dG (kPl oMod) [dG (kPl oInt) [dG kAdd [dG kMul [dIx (dPk 0) (dLit (.int 3)), dLit (.int 48271)], dLit (.int 11)]], dLit (.int 2147483647)]))
        (dAsg (gPut 0 (dLit (.int 2))) (dIx (dPk 0) (dLit (.int 3))))) (dNx) (tkE D m none) = .nx (tkE D2 m none) := fun {D} ok => by
      rw [out_if (yq_eqi dr2 yq_lit)]
      by_cases hz : D.hv = 0
      · refine ⟨{ D with sd := (D.sd * 48271 + 11) % 2147483647, hv := (D.sd * 48271 + 11) % 2147483647 }, ⟨ok.at_, Int.emod_nonneg _ (by omega), Int.emod_nonneg _ (by omega), Int.emod_lt_of_pos _ (by omega), ok.cs⟩, ?_⟩
        rw [if_pos (decide_eq_true hz), out_seq (put3_ (yq_mod (yq_int (yq_add (yq_mul dr3 yq_lit (mul_small ok.sd ok.sd2)) yq_lit)) yq_lit (by decide)))]
        exact put2_ dr3
      · exact ⟨D, ok, by rw [if_neg (by simp [hz])]; rfl⟩
    have ok1 : Dr.Ok { D with at_ := D.at_ + 1 } := ⟨by have := ok.at_; show -1 ≤ D.at_ + 1; omega, ok.hv, ok.sd, ok.sd2, ok.cs⟩
    obtain ⟨D1, okD1, e1⟩ : ∃ D1, Dr.Ok D1 ∧ dIfS (dG (kPl oLt) [dIx (dPk 0) (dLit (.int 1)), dG (kLen) [dIx (dPk 0) (dLit (.int 0))]]) (dAsg (gPut 0 (dLit (.int 2))) (dIx (dIx (dPk 0) (dLit (.int 0))) (dIx (dPk 0) (dLit (.int 1))))) (dNx) (tkE { D with at_ := D.at_ + 1 } m none) = .nx (tkE D1 m none) := by
      rw [out_if (yq_lt dr1 (yq_len dr0 rfl))]
      by_cases hl : (D.at_ + 1) < ((D.cs.map PyData.int).length : Int)
      · have h0 : 0 ≤ D.at_ + 1 := by have := ok.at_; omega
        have hn : (D.at_ + 1).toNat < D.cs.length := by simp at hl; omega
        refine ⟨{ D with at_ := D.at_ + 1, hv := D.cs[(D.at_ + 1).toNat] }, ⟨ok1.at_, ok.cs _ (List.getElem_mem _), ok.sd, ok.sd2, ok.cs⟩, ?_⟩
        rw [if_pos (decide_eq_true hl)]
        refine put2_ (yq_ix dr0 dr1 ?_)
        simp only [ixV, atI, ixN, if_pos h0, if_pos hl, Option.bind_some]
        simp [hn]
      · exact ⟨_, ok1, by rw [if_neg (by simpa using hl)]; rfl⟩
    obtain ⟨D2, ok2, e2⟩ := step okD1
    obtain ⟨x, D3, hx1, hx2, ok3, e3⟩ := last ok2
    refine ⟨x, D3, hx1, hx2, ok3, ?_⟩
    rw [out_seq (e := tkE D2 m none) ?_]
    · exact e3
    rw [out_if (yq_eqi dr2 yq_lit), if_pos (decide_eq_true hz), out_seq (put1_ (yq_add dr1 yq_lit)), out_seq e1]
    exact e2
  · obtain ⟨x, D3, hx1, hx2, ok3, e3⟩ := last ok
    refine ⟨x, D3, hx1, hx2, ok3, ?_⟩
    rw [out_seq (e := tkE D m none) ?_]
    · exact e3
    rw [out_if (yq_eqi dr2 yq_lit), if_neg (by simp [hz])]
    rfl
/-! ### loops -/
theorem runF_ix {p : Tg} {b : Ev → Out} (I : Nat → Ev → Prop) : ∀ {ds : List PyData} {k : Nat} {env : Ev}, (∀ i d, ds[i]? = some d → ∀ env, I (k + i) env → ∃ e1 e2, p d env = some e1 ∧ (b e1 = .nx e2 ∨ b e1 = .ct e2) ∧ I (k + i + 1) e2) → I k env → ∃ e2, runF p b ds env = .nx e2 ∧ I (k + ds.length) e2
  | [], k, env, _, h => ⟨env, rfl, h⟩
  | d :: ds, k, env, hs, h => by
    obtain ⟨e1, e2, h1, h2, h3⟩ := hs 0 d rfl env h
    obtain ⟨e3, h4, h5⟩ := runF_ix I (ds := ds) (k := k + 1) (env := e2) (fun i d' hd env' hI => by
      have q := hs (i + 1) d' (by simpa using hd) env' (by rw [show k + (i + 1) = k + 1 + i by omega]; exact hI)
      rw [show k + (i + 1) + 1 = k + 1 + i + 1 by omega] at q
      exact q) h3
    refine ⟨e3, ?_, by rw [List.length_cons, show k + (ds.length + 1) = k + 1 + ds.length by omega]; exact h5⟩
    unfold runF
    simp only [h1]
    rcases h2 with h2 | h2 <;> simp only [h2, h4]
theorem runF_inv {p : Tg} {b : Ev → Out} (I : Ev → Prop) {ds : List PyData} {env : Ev} (hs : ∀ d ∈ ds, ∀ env, I env → ∃ e1 e2, p d env = some e1 ∧ (b e1 = .nx e2 ∨ b e1 = .ct e2) ∧ I e2) (h : I env) : ∃ e2, runF p b ds env = .nx e2 ∧ I e2 := by
  obtain ⟨e2, h1, h2⟩ := runF_ix (p := p) (b := b) (fun _ => I) (ds := ds) (k := 0) (env := env) (fun i d hd env' hI => hs d (List.mem_of_getElem? hd) env' hI) h
  exact ⟨e2, h1, h2⟩
theorem out_for {p : Tg} {src : Ev → Res} {b : Ev → Out} {env : Ev} {ds : List PyData} (h : YQ src env (.own (.fz (.list ds)))) : dFor p src b env = runF p b ds env := by
  obtain ⟨q, e, _⟩ := h
  unfold dFor; rw [e]
theorem yq_op1 {o : List PyData → Option PyData} {f : Ev → Res} {env : Ev} {a d : PyData} (h : YQ f env (.own (.fz a))) (ho : o [a] = some d) : YQ (dOp o [f]) env (.own (.fz d)) := yq_Fi (y1 h) (by
  unfold kOp valDs valD frz valDs
  simp [ho])
theorem yq_neg {f : Ev → Res} {env : Ev} {i : Int} (h : YQ f env (.own (.fz (.int i)))) : YQ (dOp oNeg [f]) env (.own (.fz (.int (-i)))) := yq_op1 h rfl
def drawDen : Ev → Out :=
  dSeq (dSet 1 (dLit (.int 7)))
    (dSeq (dFor (gNm 2) (dIt (dTk 0)) (dSet 1 (dG (kPl oMod) [dG (kPl oInt) [dG kAdd [dG kAdd [dG kMul [dPk 1, dLit (.int 48271)], dG (kPl oMod) [dG (kPl oAbs) [dG (kPl oInt) [dPk 2]], dLit (.int 65521)]], dLit (.int 1)]], dLit (.int 2147483647)])))
    (dRet (dLst [dFr (dLc (gNm 2) (dIt (dTk 0)) (dLit (.bool true)) (dG (kPl oAbs) [dG (kPl oInt) [dPk 2]]) [2]), dOp oNeg [dLit (.int 1)], dLit (.int 0), dTk 1])))
theorem draw_den (ns : List Int) : ∃ D, Dr.Ok D ∧ outR (drawDen (startE 3 [.fz (scriptD ns)])) = .ret D.m := by
  unfold drawDen
  have e0 : startE 3 [.fz (scriptD ns)] = [some (.fz (scriptD ns)), none, none] := rfl
  rw [e0, out_seq (out_set yq_lit (by simp)), List.set_cons_succ, List.set_cons_zero]
  have it : ∀ {x y : Option M}, YQ (dIt (dTk 0)) [some (.fz (scriptD ns)), x, y] (.own (.fz (.list (ns.map .int)))) := fun {x y} => yq_it (yq_tk rfl) rfl rfl
  obtain ⟨e2, h1, sd, y, h2, h3, h4, hy⟩ := runF_inv (p := gNm 2) (b := dSet 1 (dG (kPl oMod) [dG (kPl oInt) [dG kAdd [dG kAdd [dG kMul [dPk 1, dLit (.int 48271)], dG (kPl oMod) [dG (kPl oAbs) [dG (kPl oInt) [dPk 2]], dLit (.int 65521)]], dLit (.int 1)]], dLit (.int 2147483647)]))
    (fun e => ∃ (sd : Int) (y : Option M), e = [some (.fz (scriptD ns)), some (.fz (.int sd)), y] ∧ 0 ≤ sd ∧ sd < 2147483647 ∧ calmAt e 2 = true) (ds := ns.map .int) (env := [some (.fz (scriptD ns)), some (.fz (.int 7)), none]) (fun d hd env => by
      rintro ⟨sd, y, rfl, h0, h1, _⟩
      obtain ⟨n, _, rfl⟩ := List.mem_map.mp hd
      refine ⟨[some (.fz (scriptD ns)), some (.fz (.int sd)), some (.fz (.int n))], _, rfl, .inl (out_set (yq_mod (yq_int (yq_add (yq_add (yq_mul (yq_pk rfl) yq_lit (mul_small h0 h1)) (yq_mod (yq_abs (yq_int (yq_pk rfl))) yq_lit (by decide))) yq_lit)) yq_lit (by decide)) (by simp)), _, _, rfl, Int.emod_nonneg _ (by omega), Int.emod_lt_of_pos _ (by omega), rfl⟩)
    ⟨7, none, rfl, by decide, by decide, rfl⟩
  rw [out_seq ((out_for it).trans h1)]
  subst h2
  have lc : YQ (dLc (gNm 2) (dIt (dTk 0)) (dLit (.bool true)) (dG (kPl oAbs) [dG (kPl oInt) [dPk 2]]) [2]) [some (.fz (scriptD ns)), some (.fz (.int sd)), y] (.own (.lst ((ns.map PyData.int).map fun d => match d with
      | .int i => .fz (.int (i.natAbs : Nat))
      | _ => .fz .none))) := by
    refine yq_lc0 [some (.fz (scriptD ns)), some (.fz (.int sd)), none] _ it (fun d hd => ?_) (by simpa using hy)
    obtain ⟨n, _, rfl⟩ := List.mem_map.mp hd
    exact ⟨[some (.fz (scriptD ns)), some (.fz (.int sd)), some (.fz (.int n))], rfl, yq_abs (yq_int (yq_pk rfl)), rfl⟩
  have e1 : ((ns.map PyData.int).map fun d => match d with
      | .int i => (.fz (.int (i.natAbs : Nat)) : M)
      | _ => .fz .none) = ((ns.map fun i => ((i.natAbs : Nat) : Int)).map PyData.int).map M.fz := by simp
  rw [e1] at lc
  have fr := yq_fr lc (frz_lst _)
  refine ⟨⟨ns.map fun i => ((i.natAbs : Nat) : Int), -1, 0, sd⟩, ⟨Int.le_refl _, Int.le_refl _, h3, h4, fun c hc => ?_⟩, out_ret (yq_Fn (ys_cons fr (ys_cons (yq_neg yq_lit) (ys_cons yq_lit (ys_cons (yq_tk rfl) ys_nil)))) rfl)⟩
  obtain ⟨n, _, rfl⟩ := List.mem_map.mp hc
  exact Int.natCast_nonneg _
end Q

set_option Elab.async false
set_option linter.all false
set_option maxRecDepth 100000
set_option maxHeartbeats 4000000
/-! What draws change: evaluations that lend the draw. -/
namespace Q
open PySem PySem.Spec PyProof.Rows L2

/-- f in the frame e: a value that P tells, the draw goes on -/
def DV (f : Ev → Res) (e : Dr → Ev) (P : Val → Prop) : Prop := ∀ D, Dr.Ok D → ∃ x D2 q, Dr.Ok D2 ∧ P x ∧ f (e D) = .ok x (e D2) q
def DVs (fs : List (Ev → Res)) (e : Dr → Ev) (P : List M → Prop) : Prop := ∀ D, Dr.Ok D → ∃ ms D2 q, Dr.Ok D2 ∧ P ms ∧ evs fs (e D) = .ok (ms.map .own) (e D2) q
abbrev Is (d : PyData) : Val → Prop := fun x => x = .own (.fz d)
section
variable {e : Dr → Ev} {f g : Ev → Res} {fs : List (Ev → Res)} {P P' : Val → Prop} {R R' : List M → Prop}
theorem dv_q {x : Val} (h : ∀ D, Dr.Ok D → YQ f (e D) x) : DV f e (· = x) := fun D ok => by
  obtain ⟨q, h1, _⟩ := h D ok
  exact ⟨x, D, q, ok, rfl, h1⟩
theorem DV.imp (h : DV f e P) (k : ∀ x, P x → P' x) : DV f e P' := fun D ok => by
  obtain ⟨x, D2, q, h1, h2, h3⟩ := h D ok
  exact ⟨x, D2, q, h1, k x h2, h3⟩
theorem DVs.imp (h : DVs fs e R) (k : ∀ x, R x → R' x) : DVs fs e R' := fun D ok => by
  obtain ⟨x, D2, q, h1, h2, h3⟩ := h D ok
  exact ⟨x, D2, q, h1, k x h2, h3⟩
theorem dvs_nil : DVs [] e (· = []) := fun D ok => ⟨[], D, .p, ok, rfl, rfl⟩
theorem dvs_cons {P : M → Prop} (h1 : DV f e fun x => ∃ m, x = .own m ∧ P m) (h2 : DVs fs e R) : DVs (f :: fs) e fun ms => ∃ m r, ms = m :: r ∧ P m ∧ R r := fun D ok => by
  obtain ⟨x, D2, q, ok2, ⟨m, rfl, p⟩, e1⟩ := h1 D ok
  obtain ⟨r, D3, q2, ok3, p2, e2⟩ := h2 D2 ok2
  refine ⟨m :: r, D3, q.j q2, ok3, ⟨m, r, rfl, p, p2⟩, ?_⟩
  unfold evs
  rw [e1]
  simp only [e2]
  cases q2 <;> rfl
theorem dv_G {k : List Val → Option (Val × Bool)} (h : DVs fs e R) (hk : ∀ ms, R ms → ∃ y b, k (ms.map .own) = some (y, b) ∧ P y) : DV (dG k fs) e P := fun D ok => by
  obtain ⟨ms, D2, q, ok2, p, e1⟩ := h D ok
  obtain ⟨y, b, k1, py⟩ := hk ms p
  exact ⟨y, D2, q.f b, ok2, py, by unfold dG; rw [e1]; simp only [k1]⟩
theorem dv_F {qf : Ql → Ql} {k : List Val → Option Val} (h : DVs fs e R) (hk : ∀ ms, R ms → ∃ y, k (ms.map .own) = some y ∧ P y) : DV (dF qf k fs) e P := fun D ok => by
  obtain ⟨ms, D2, q, ok2, p, e1⟩ := h D ok
  obtain ⟨y, k1, py⟩ := hk ms p
  exact ⟨y, D2, qf q, ok2, py, by unfold dF; rw [e1]; simp only [k1]⟩
theorem dv_fr (h : DV f e fun x => ∃ m d, x = .own m ∧ frz m = some d ∧ P (.own (.fz d))) : DV (dFr f) e P := fun D ok => by
  obtain ⟨x, D2, q, ok2, ⟨m, d, rfl, h1, h2⟩, e1⟩ := h D ok
  exact ⟨_, D2, q, ok2, h2, by unfold dFr; rw [e1]; simp only [h1]⟩
/-- one more below m -/
theorem dv_take {s : Nat} {m : Int} (hs : ∀ D, (e D)[s]? = some (some D.m)) (hset : ∀ D D2, (e D).set s (some D2.m) = e D2) (h : DV g e (Is (.int m))) (h1 : 1 ≤ m) (hl : m.natAbs.log2 < 9000) :
    DV (dCallI 3 takeDen [.io s, .v g]) e fun x => ∃ i : Int, x = .own (.fz (.int i)) ∧ 0 ≤ i ∧ i < m := fun D ok => by
  obtain ⟨x, D2, q, ok2, px, e1⟩ := h D ok
  subst px
  obtain ⟨i, D3, i1, i2, ok3, e3⟩ := take_den ok2 h1 hl
  refine ⟨_, D3, .l, ok3, ⟨i, rfl, i1, i2⟩, ?_⟩
  have hlen : s < (e D2).length := by
    have := hs D2
    obtain ⟨q, _⟩ := List.getElem?_eq_some_iff.mp this
    exact q
  have ev : evs (vparts [.io s, .v g]) (e D) = .ok [.own (.fz (.int m))] (e D2) (q.j .p) := by
    show evs [g] (e D) = _
    unfold evs
    rw [e1]
    simp only [evs]
  unfold dCallI
  have hh : heldAll (e D) [.io s, .v g] = true := by
    simp only [heldAll, ioOf, List.all_cons, List.all_nil, Bool.and_true, held1, hs D]
  rw [if_pos hh]
  unfold dCallIo
  rw [ev]
  have st : startE 3 (mergeM [.io s, .v g] [.fz (.int m)] D2.m) = tkE D2 m none := rfl
  simp only [owns, ioOf, hs D2, Option.map_some, st, e3, backR, ioPos]
  simp only [tkE, List.getElem?_cons_zero, if_pos hlen, hset]
/-- rows of drawn things -/
inductive All2 {α β : Type} (R : α → β → Prop) : List α → List β → Prop
  | nil : All2 R [] []
  | cons {a : α} {b : β} {as : List α} {bs : List β} : R a b → All2 R as bs → All2 R (a :: as) (b :: bs)
theorem runC_d {p : Tg} {vs : List Nat} (e1 : PyData → Dr → Ev) (P : PyData → M → Prop) : ∀ {ds : List PyData}, (∀ d ∈ ds, (∀ D, p d (e D) = some (e1 d D)) ∧ (DV f (e1 d) fun x => ∃ m, x = .own m ∧ P d m) ∧ ∀ D, wipeE (e1 d D) vs = e D) →
    ∀ D, Dr.Ok D → ∃ ms D2 q, Dr.Ok D2 ∧ All2 P ds ms ∧ runC p (dLit (.bool true)) f vs ds (e D) = some (ms, e D2, q)
  | [], _, D, ok => ⟨[], D, .p, ok, .nil, rfl⟩
  | d :: ds, h, D, ok => by
    obtain ⟨h1, h2, h3⟩ := h d List.mem_cons_self
    obtain ⟨x, D2, q, ok2, ⟨m, rfl, pm⟩, e2⟩ := h2 D ok
    obtain ⟨ms, D3, q3, ok3, a3, e3⟩ := runC_d e1 P (ds := ds) (fun y hy => h y (List.mem_cons_of_mem _ hy)) D2 ok2
    refine ⟨m :: ms, D3, (Ql.p.j q).j q3, ok3, .cons pm a3, ?_⟩
    unfold runC
    simp only [h1, dLit, e2, h3, e3, Option.map_some]
theorem dv_lc {p : Tg} {src : Ev → Res} {vs : List Nat} {ds : List PyData} (e0 : Dr → Ev) (e1 : PyData → Dr → Ev) (P : PyData → M → Prop) (hs : DV src e (Is (.list ds)))
    (he : ∀ d ∈ ds, (∀ D, p d (e0 D) = some (e1 d D)) ∧ (DV f (e1 d) fun x => ∃ m, x = .own m ∧ P d m) ∧ ∀ D, wipeE (e1 d D) vs = e0 D) (hc : ∀ D, vs.all (calmAt (e D)) = true := by intro _; rfl) (hw : ∀ D, wipeE (e D) vs = e0 D := by intro _; rfl) (hr : ∀ D D2, restE (e0 D2) (e D) vs = e D2 := by intro _ _; rfl) :
    DV (dLc p src (dLit (.bool true)) f vs) e fun x => ∃ ms, x = .own (.lst ms) ∧ All2 P ds ms := fun D ok => by
  obtain ⟨x, D2, q, ok2, px, h1⟩ := hs D ok
  subst px
  obtain ⟨ms, D3, q3, ok3, a3, h3⟩ := runC_d (e := e0) e1 P he D2 ok2
  refine ⟨_, D3, (q.j q3).n, ok3, ⟨ms, rfl, a3⟩, ?_⟩
  unfold dLc
  rw [h1]
  simp only [hc, if_true, hw, h3, hr]
end
end Q

set_option Elab.async false
set_option linter.all false
set_option maxRecDepth 100000
set_option maxHeartbeats 4000000
/-! Tests of data. -/
namespace Q
open PySem PySem.Spec PyProof.Rows L2
mutual
def noDict : PyData → Bool
  | .dict _ => false
  | .list ds => noDicts ds
  | .tuple ds => noDicts ds
  | _ => true
def noDicts : List PyData → Bool
  | [] => true
  | d :: ds => noDict d && noDicts ds
end
theorem noDicts_mem : ∀ {ds : List PyData}, noDicts ds = true → ∀ d ∈ ds, noDict d = true
  | [], _, _, h => nomatch h
  | d :: ds, h, x, hx => by
    unfold noDicts at h
    rw [Bool.and_eq_true] at h
    rcases List.mem_cons.mp hx with e | hx
    · rw [e]; exact h.1
    · exact noDicts_mem h.2 x hx
def isWh : PyData → Bool
  | .int _ => true
  | _ => false
theorem isi_d {t : Ty} {d : PyData} (h : noDict d = true) : ∃ b, isiD t d = some b := by
  cases d <;> first | exact ⟨_, rfl⟩ | (unfold noDict at h; cases h)
def isTup : PyData → Bool
  | .tuple _ => true
  | _ => false
theorem isi_tup {d : PyData} (h : noDict d = true) : isiV .tuple (.own (.fz d)) = some (isTup d) := by
  cases d <;> first | rfl | (unfold noDict at h; cases h)
def inR (lo hi : Int) : PyData → Bool
  | .int i => decide (lo ≤ i) && decide (i ≤ hi)
  | _ => false
theorem yq_chain {p1 p2 : Int → Int → Bool} {f g h : Ev → Res} {env : Ev} {i j k : Int} (h1 : YQ f env (.own (.fz (.int i)))) (h2 : YQ g env (.own (.fz (.int j)))) (h3 : p1 i j = true → YQ h env (.own (.fz (.int k)))) : YQ (dChain p1 p2 f g h) env (.own (.fz (.bool (p1 i j && p2 j k)))) := by
  obtain ⟨q, e, n⟩ := y2 h1 h2
  cases hp : p1 i j with
  | false => exact ⟨q, by simp only [dChain, e, int2, hp, Bool.false_and], n⟩
  | true =>
    obtain ⟨q3, e3, n3⟩ := h3 hp
    exact ⟨q.j q3, by simp only [dChain, e, int2, hp, e3, isInt, Bool.true_and], jnl n n3⟩
theorem boolsD_map (b : PyData → Bool) (ds : List PyData) : boolsD (ds.map fun d => .bool (b d)) = some (ds.map b) := by
  induction ds with
  | nil => rfl
  | cons d ds ih => simp [boolsD, ih]
/-- all([b(d) for d in src]) -/
theorem yq_all {p : Tg} {src f : Ev → Res} {vs : List Nat} {env : Ev} {ds : List PyData} (env0 : Ev) (b : PyData → Bool) (hs : YQ src env (.own (.fz (.list ds))))
    (he : ∀ d ∈ ds, ∃ e1, p d env0 = some e1 ∧ YQ f e1 (.own (.fz (.bool (b d)))) ∧ wipeE e1 vs = env0) (hc : vs.all (calmAt env) = true := by rfl) (hw : wipeE env vs = env0 := by rfl) (hr : restE env0 env vs = env := by rfl) :
    YQ (dG (kPl oAll) [dLc p src (dLit (.bool true)) f vs]) env (.own (.fz (.bool (ds.all b)))) := by
  have l := yq_lc0 env0 (fun d => .fz (.bool (b d))) hs he hc hw hr
  have e : ds.map (fun d => (.fz (.bool (b d)) : M)) = (ds.map fun d => PyData.bool (b d)).map M.fz := by simp
  rw [e] at l
  refine yq_G (b := false) (ys_cons l ys_nil) ?_
  have h1 : valDs [Val.own (.lst ((ds.map fun d => PyData.bool (b d)).map M.fz))] = some [.list (ds.map fun d => PyData.bool (b d))] := by
    simp only [valDs, valD, frz_lst, Option.bind_some, Option.map_some]
  simp only [kPl, h1, Option.bind_some, oAll, boolsD_map, Option.map_some, List.all_map]
  rfl
/-! ### a def's course -/
section
variable {t f : Ev → Res} {rest a b : Ev → Out} {env : Ev} {c : Bool} {d : PyData} {m : M} {i : Nat}
theorem og (ht : YQ t env (.own (.fz (.bool c)))) : outR (dSeq (dIfS t (dRet (dLit d)) dNx) rest env) = if c = true then .ret (.fz d) else outR (rest env) := by
  cases c with
  | true => rw [out_seq_ret (by rw [out_if ht, if_pos rfl]; rfl)]; rfl
  | false => rw [out_seq (by rw [out_if ht]; rfl)]; rfl
theorem oif (ht : YQ t env (.own (.fz (.bool c)))) : outR (dIfS t a b env) = if c = true then outR (a env) else outR (b env) := by
  rw [out_if ht]; cases c <;> rfl
theorem oset (h : YQ f env (.own m)) (hi : i < env.length) : outR (dSeq (dSet i f) rest env) = outR (rest (env.set i (some m))) := by rw [out_seq (out_set h hi)]
theorem oex {x : Val} (h : YQ f env x) : outR (dSeq (dEx f) rest env) = outR (rest env) := by rw [out_seq (out_ex h)]
theorem oexx {x : Exn} {e : Ev} (h : f env = .exn x e) : outR (dSeq (dEx f) rest env) = .exn x := by
  unfold dSeq dEx; rw [h]; rfl
theorem oret {d2 : PyData} (h : YQ f env (.own (.fz d2))) : outR (dRet f env) = .ret (.fz d2) := out_ret h
theorem oretb {b1 b2 : Bool} (h : YQ f env (.own (.fz (.bool b1)))) (e : b1 = b2) : outR (dRet f env) = .ret (.fz (.bool b2)) := by rw [← e]; exact out_ret h
/-- a call that raises -/
theorem xcall {n : Nat} {den : Ev → Out} {fs : List (Ev → Res)} {xs : List Val} {ms : List M} {v : Bool} {x : Exn} (h : YQs fs env xs) (ha : argMs xs = some (ms, v)) (hr : outR (den (startE n ms)) = .exn x) : dCall n den fs env = .exn x env := by
  obtain ⟨q, e, _⟩ := h
  rw [dCall_eq, e]
  simp only [ha, hr]
end
theorem yq_call1 {n : Nat} {den : Ev → Out} {f : Ev → Res} {env : Ev} {a r : PyData} (h : YQ f env (.own (.fz a))) (hr : outR (den (startE n [.fz a])) = .ret (.fz r)) : YQ (dCall n den [f]) env (.own (.fz r)) := yq_call (y1 h) rfl rfl hr (fun z => by cases z)
theorem yq_call2 {n : Nat} {den : Ev → Out} {f g : Ev → Res} {env : Ev} {a b r : PyData} (h : YQ f env (.own (.fz a))) (h2 : YQ g env (.own (.fz b))) (hr : outR (den (startE n [.fz a, .fz b])) = .ret (.fz r)) : YQ (dCall n den [f, g]) env (.own (.fz r)) := yq_call (y2 h h2) rfl rfl hr (fun z => by cases z)
theorem y3 {f g h : Ev → Res} {env : Ev} {a b c : PyData} (h1 : YQ f env (.own (.fz a))) (h2 : YQ g env (.own (.fz b))) (h3 : YQ h env (.own (.fz c))) : YQs [f, g, h] env [.own (.fz a), .own (.fz b), .own (.fz c)] := ys_cons h1 (y2 h2 h3)
theorem yq_call3 {n : Nat} {den : Ev → Out} {f g h : Ev → Res} {env : Ev} {a b c r : PyData} (h1 : YQ f env (.own (.fz a))) (h2 : YQ g env (.own (.fz b))) (h3 : YQ h env (.own (.fz c))) (hr : outR (den (startE n [.fz a, .fz b, .fz c])) = .ret (.fz r)) : YQ (dCall n den [f, g, h]) env (.own (.fz r)) := yq_call (y3 h1 h2 h3) rfl rfl hr (fun z => by cases z)
theorem kadd_tt {a b : List PyData} (h : a.length + b.length ≤ SZ) : kAdd [.own (.fz (.tuple a)), .own (.fz (.tuple b))] = some (.own (.fz (.tuple (a ++ b))), true) := by
  have h1 : kAddP [.own (.fz (.tuple a)), .own (.fz (.tuple b))] = none := by
    unfold kAddP kPl
    simp [valDs, valD, frz]
  unfold kAdd
  rw [h1]
  simp [kAddT, tv, h]
theorem yq_addT {f g : Ev → Res} {env : Ev} {a b : List PyData} (h1 : YQ f env (.own (.fz (.tuple a)))) (h2 : YQ g env (.own (.fz (.tuple b)))) (h : a.length + b.length ≤ SZ) : YQ (dG kAdd [f, g]) env (.own (.fz (.tuple (a ++ b)))) := yq_G (y2 h1 h2) (kadd_tt h)
theorem yq_rng {f : Ev → Res} {env : Ev} {n : Int} (h : YQ f env (.own (.fz (.int n)))) (h0 : -(2 ^ 62) ≤ n) (h1 : n ≤ SZ) : YQ (dG kRng [f]) env (.own (.fz (.list (rngD 0 n.toNat)))) := yq_G (b := false) (y1 h) (by simp only [kRng, if_pos (And.intro h0 h1)])
theorem rngD_mem {n : Nat} {d : PyData} (h : d ∈ rngD 0 n) : ∃ i : Nat, i < n ∧ d = .int i := by
  unfold rngD at h
  obtain ⟨i, hi, rfl⟩ := List.mem_map.mp h
  exact ⟨i, List.mem_range.mp hi, by simp⟩
theorem rngD_map {α : Type} (f : PyData → α) (n : Nat) : (rngD 0 n).map f = (List.range n).map fun i => f (.int (i : Nat)) := by
  unfold rngD
  rw [List.map_map]
  apply List.map_congr_left
  intro i _
  simp
theorem yq_en {f : Ev → Res} {env : Ev} {m : M} {d : PyData} {ds : List PyData} (h : YQ f env (.own m)) (hd : frz m = some d) (hi : seqD d = some ds) : YQ (dEn f) env (.own (.fz (.list (enD ds)))) := by
  obtain ⟨q, e, n⟩ := yq_fr h hd
  exact ⟨q, by unfold dEn; rw [e]; simp only [hi], n⟩
theorem yq_tupOf {f : Ev → Res} {env : Ev} {x : Val} {ds : List PyData} (h : YQ f env x) (hx : seqv x = some ds) : YQ (dG kTupOf [f]) env (.own (.fz (.tuple ds))) := yq_G (b := true) (ys_cons h ys_nil) (by simp only [kTupOf, hx, Option.map_some])
theorem seqv_lst (ds : List PyData) : seqv (.own (.lst (ds.map M.fz))) = some ds := by
  unfold seqv
  have : lv (.own (.lst (ds.map M.fz))) = some ds := by
    unfold lv
    exact leaves_fz ds
  rw [this]; rfl
/-! ### shaped data: what == takes -/
def Sh (k : Nat) (d : PyData) : Prop := d.canLay0 = true ∧ d.depth ≤ k
theorem sh_int {k : Nat} {i : Int} : Sh k (.int i) := ⟨rfl, Nat.zero_le _⟩
theorem sh_bool {k : Nat} {i : Bool} : Sh k (.bool i) := ⟨rfl, Nat.zero_le _⟩
theorem sh_none {k : Nat} : Sh k .none := ⟨rfl, Nat.zero_le _⟩
theorem sh_all {k : Nat} : ∀ {ds : List PyData}, (∀ d ∈ ds, Sh k d) → PyData.canLayAll0 ds = true ∧ PyData.depthAll ds ≤ k
  | [], _ => ⟨rfl, Nat.zero_le _⟩
  | d :: ds, h => by
    obtain ⟨a, b⟩ := h d List.mem_cons_self
    obtain ⟨c, e⟩ := sh_all (k := k) (ds := ds) fun x hx => h x (List.mem_cons_of_mem _ hx)
    exact ⟨by unfold PyData.canLayAll0; rw [a, c]; rfl, by unfold PyData.depthAll; omega⟩
theorem sh_tup {k : Nat} {ds : List PyData} (h : ∀ d ∈ ds, Sh k d) : Sh (k + 1) (.tuple ds) := by
  obtain ⟨a, b⟩ := sh_all h
  exact ⟨by unfold PyData.canLay0; exact a, by unfold PyData.depth; omega⟩
theorem sh_lst {k : Nat} {ds : List PyData} (h : ∀ d ∈ ds, Sh k d) : Sh (k + 1) (.list ds) := by
  obtain ⟨a, b⟩ := sh_all h
  exact ⟨by unfold PyData.canLay0; exact a, by unfold PyData.depth; omega⟩
theorem Sh.mono {k l : Nat} {d : PyData} (h : Sh k d) (hl : k ≤ l) : Sh l d := ⟨h.1, Nat.le_trans h.2 hl⟩
theorem eqOk_sh {k : Nat} {a b : PyData} (h1 : Sh k a) (h2 : Sh k b) (hk : k ≤ 64) : eqOk a b = true := by
  have s1 : SeqAt.shaped a = true := by unfold SeqAt.shaped; rw [h1.1, decide_eq_true (Nat.le_trans h1.2 hk)]; rfl
  have s2 : SeqAt.shaped b = true := by unfold SeqAt.shaped; rw [h2.1, decide_eq_true (Nat.le_trans h2.2 hk)]; rfl
  unfold eqOk
  rw [s1, s2]; simp
theorem oNe_self {k : Nat} {a : PyData} (h : Sh k a) (hk : k ≤ 64) : oNe [a, a] = some (.bool false) := by
  simp only [oNe, eqOk_sh h h hk, if_true, SeqAt.eqv_refl a h.1]; rfl
theorem oEq_self {k : Nat} {a : PyData} (h : Sh k a) (hk : k ≤ 64) : oEq [a, a] = some (.bool true) := by
  simp only [oEq, eqOk_sh h h hk, if_true, SeqAt.eqv_refl a h.1]
theorem intsD_map (ns : List Int) : intsD (ns.map .int) = some ns := by
  induction ns with
  | nil => rfl
  | cons n ns ih => simp [intsD, ih]
theorem yq_sum {f : Ev → Res} {env : Ev} {x : Val} {ns : List Int} (h : YQ f env x) (hx : valD x = some (.list (ns.map .int))) : YQ (dG (kPl oSum) [f]) env (.own (.fz (.int ns.sum))) := yq_G (b := false) (ys_cons h ys_nil) (by
  have e : valDs [x] = some [.list (ns.map .int)] := by simp only [valDs, hx, Option.bind_some, Option.map_some]
  simp only [kPl, e, Option.bind_some, oSum, intsD_map, Option.map_some])
end Q

set_option Elab.async false
set_option linter.all false
set_option maxRecDepth 100000
set_option maxHeartbeats 4000000
/-! What draws change, row by row. -/
namespace Q
open PySem PySem.Spec PyProof.Rows L2
def RO (s : Nat) (b : Ev → Out) (env : Ev) (Q : M → Prop) : Prop := ∃ m D2 e2, Dr.Ok D2 ∧ Q m ∧ b env = .ret m e2 ∧ e2[s]? = some (some D2.m)
section
variable {e : Dr → Ev} {f g t : Ev → Res} {fs gs : List (Ev → Res)} {P P' : Val → Prop} {Q : M → Prop} {s i : Nat} {D : Dr} {a b rest : Ev → Out}
theorem do_set {P : M → Prop} (ok : Dr.Ok D) (h : DV f e fun x => ∃ m, x = .own m ∧ P m) (hi : ∀ D, i < (e D).length) (k : ∀ m D2, Dr.Ok D2 → P m → RO s rest ((e D2).set i (some m)) Q) : RO s (dSeq (dSet i f) rest) (e D) Q := by
  obtain ⟨x, D2, q, ok2, ⟨m, rfl, p⟩, h1⟩ := h D ok
  have h2 : dSet i f (e D) = .nx ((e D2).set i (some m)) := by
    unfold dSet; rw [h1]; simp only [put1, if_pos (hi D2)]
  have h3 := k m D2 ok2 p
  unfold RO at h3 ⊢
  rw [out_seq h2]
  exact h3
theorem do_asg {p : Tg} {P : PyData → Prop} {e2 : PyData → Dr → Ev} (ok : Dr.Ok D) (h : DV f e fun x => ∃ m d, x = .own m ∧ frz m = some d ∧ P d) (hp : ∀ d D, P d → p d (e D) = some (e2 d D)) (k : ∀ d D2, Dr.Ok D2 → P d → RO s rest (e2 d D2) Q) : RO s (dSeq (dAsg p f) rest) (e D) Q := by
  obtain ⟨x, D2, q, ok2, ⟨m, d, rfl, hm, hd⟩, h1⟩ := h D ok
  have h2 : dAsg p f (e D) = .nx (e2 d D2) := by
    unfold dAsg dFr; rw [h1]; simp only [hm, hp d D2 hd]
  have h3 := k d D2 ok2 hd
  unfold RO at h3 ⊢
  rw [out_seq h2]
  exact h3
theorem do_if {P : Bool → Prop} (ok : Dr.Ok D) (h : DV t e fun x => ∃ b, x = .own (.fz (.bool b)) ∧ P b) (h1 : ∀ D, Dr.Ok D → P true → RO s a (e D) Q) (h2 : ∀ D, Dr.Ok D → P false → RO s rest (e D) Q) : RO s (dSeq (dIfS t a dNx) rest) (e D) Q := by
  obtain ⟨x, D2, q, ok2, ⟨c, rfl, p⟩, e1⟩ := h D ok
  cases c with
  | true =>
    obtain ⟨m, D3, e3, ok3, q3, r3, s3⟩ := h1 D2 ok2 p
    refine ⟨m, D3, e3, ok3, q3, ?_, s3⟩
    unfold dSeq dIfS
    rw [e1]
    simp only [r3]
  | false =>
    obtain ⟨m, D3, e3, ok3, q3, r3, s3⟩ := h2 D2 ok2 p
    refine ⟨m, D3, e3, ok3, q3, ?_, s3⟩
    unfold dSeq dIfS
    rw [e1]
    simp only [dNx, r3]
theorem do_ret (ok : Dr.Ok D) (h : DV f e fun x => ∃ m, x = .own m ∧ Q m) (hs : ∀ D, (e D)[s]? = some (some D.m)) : RO s (dRet f) (e D) Q := by
  obtain ⟨x, D2, q, ok2, ⟨m, rfl, p⟩, e1⟩ := h D ok
  exact ⟨m, D2, e D2, ok2, p, by unfold dRet; rw [e1], hs D2⟩
theorem vparts_v : ∀ {gs : List (Ev → Res)}, vparts (gs.map Arg.v) = gs
  | [] => rfl
  | g :: gs => congrArg (g :: ·) vparts_v
theorem ioOf_v : ∀ {gs : List (Ev → Res)}, ioOf (gs.map Arg.v) = []
  | [] => rfl
  | g :: gs => by show ioOf (gs.map Arg.v) = []; exact ioOf_v
theorem owns_own : ∀ (ms : List M), owns (ms.map .own) = some ms
  | [] => rfl
  | m :: ms => by
    have := owns_own ms
    simp only [List.map_cons, owns, this, Option.map_some]
theorem merge_v : ∀ {gs : List (Ev → Res)} {ms : List M} {x : M}, ms.length = gs.length → mergeM (gs.map Arg.v) ms x = ms
  | [], [], x, _ => rfl
  | [], m :: ms, x, h => by cases h
  | g :: gs, [], x, h => by cases h
  | g :: gs, m :: ms, x, h => by
    have := merge_v (gs := gs) (ms := ms) (x := x) (Nat.succ.inj h)
    show m :: mergeM (gs.map Arg.v) ms x = _
    rw [this]
/-- a call that lends the draw (its first argument) -/
theorem dv_io {n : Nat} {den : Ev → Out} {ms : List M} {as : List Arg} (has : as = .io s :: gs.map .v) (hs : ∀ D, (e D)[s]? = some (some D.m)) (hset : ∀ D D2, (e D).set s (some D2.m) = e D2) (h : DVs gs e (· = ms))
    (hc : ∀ D, Dr.Ok D → RO 0 den (startE n (D.m :: ms)) Q) : DV (dCallI n den as) e fun x => ∃ m, x = .own m ∧ Q m := fun D ok => by
  subst has
  obtain ⟨ms', D2, q, ok2, rfl, e1⟩ := h D ok
  obtain ⟨m, D3, e3, ok3, q3, r3, s3⟩ := hc D2 ok2
  refine ⟨_, D3, .l, ok3, ⟨m, rfl, q3⟩, ?_⟩
  have hlen : s < (e D2).length := by
    obtain ⟨q, _⟩ := List.getElem?_eq_some_iff.mp (hs D2)
    exact q
  have ev : evs (vparts (.io s :: gs.map .v)) (e D) = .ok (ms'.map .own) (e D2) q := by
    show evs (vparts (gs.map .v)) (e D) = _
    rw [vparts_v]; exact e1
  have hio : ioOf (.io s :: gs.map Arg.v) = [s] := by
    show s :: ioOf (gs.map Arg.v) = [s]
    rw [ioOf_v]
  unfold dCallI
  have hh : heldAll (e D) (.io s :: gs.map .v) = true := by
    simp only [heldAll, hio, List.all_cons, List.all_nil, Bool.and_true, held1, hs D]
  rw [if_pos hh]
  unfold dCallIo
  rw [ev]
  have st : startE n (mergeM (.io s :: gs.map .v) ms' D2.m) = startE n (D2.m :: ms') := by
    show startE n (D2.m :: mergeM (gs.map .v) ms' D2.m) = _
    rw [merge_v (by have := evs_len e1; rw [List.length_map] at this; exact this)]
  simp only [owns_own, hio, hs D2, st, r3, backR, ioPos, s3, if_pos hlen, hset]
theorem dv_if {P : Val → Prop} {T : Bool → Prop} (h : DV t e fun x => ∃ b, x = .own (.fz (.bool b)) ∧ T b) (h1 : T true → DV f e P) (h2 : T false → DV g e P) : DV (dIf t f g) e P := fun D ok => by
  obtain ⟨x, D2, q, ok2, ⟨c, rfl, p⟩, e1⟩ := h D ok
  cases c with
  | true =>
    obtain ⟨y, D3, q3, ok3, q4, r3⟩ := h1 p D2 ok2
    exact ⟨y, D3, _, ok3, q4, by unfold dIf; rw [e1]; simp only [r3]; rfl⟩
  | false =>
    obtain ⟨y, D3, q3, ok3, q4, r3⟩ := h2 p D2 ok2
    exact ⟨y, D3, _, ok3, q4, by unfold dIf; rw [e1]; simp only [r3]; rfl⟩
/-- ints drawn -/
abbrev IsI (P : Int → Prop) : Val → Prop := fun x => ∃ m, x = .own m ∧ ∃ i : Int, m = .fz (.int i) ∧ P i
theorem dv_lit {d : PyData} {P : M → Prop} (h : P (.fz d)) : DV (dLit d) e fun x => ∃ m, x = .own m ∧ P m := (dv_q fun _ _ => yq_lit).imp fun x hx => ⟨_, hx, h⟩
theorem dv_own {m : M} {P : M → Prop} (h : ∀ D, Dr.Ok D → YQ f (e D) (.own m)) (p : P m) : DV f e fun x => ∃ m, x = .own m ∧ P m := (dv_q h).imp fun x hx => ⟨_, hx, p⟩
theorem dvs_is1 {m : M} (h : DV f e (· = .own m)) : DVs [f] e (· = [m]) := (dvs_cons (P := (· = m)) (h.imp fun x hx => ⟨m, hx, rfl⟩) dvs_nil).imp fun x ⟨a, r, h1, h2, h3⟩ => by rw [h1, h2, h3]
theorem dvs_is {m : M} {ms : List M} (h : DV f e (· = .own m)) (h2 : DVs fs e (· = ms)) : DVs (f :: fs) e (· = m :: ms) := (dvs_cons (P := (· = m)) (h.imp fun x hx => ⟨m, hx, rfl⟩) h2).imp fun x ⟨a, r, h1, h2, h3⟩ => by rw [h1, h2, h3]
theorem dv_tk {m : Int} (hs : ∀ D, (e D)[s]? = some (some D.m)) (hset : ∀ D D2, (e D).set s (some D2.m) = e D2) (h : DV g e (Is (.int m))) (h1 : 1 ≤ m) (hl : m.natAbs.log2 < 9000) :
    DV (dCallI 3 takeDen [.io s, .v g]) e (IsI fun i => 0 ≤ i ∧ i < m) := (dv_take hs hset h h1 hl).imp fun x ⟨i, hx, h0⟩ => ⟨_, hx, i, rfl, h0⟩
theorem dv_eq0 {P : Int → Prop} (h : DV f e (IsI P)) : DV (dG (kPl oEq) [f, dLit (.int 0)]) e fun x => ∃ b, x = .own (.fz (.bool b)) ∧ True :=
  dv_G (dvs_cons h (dvs_is1 (dv_q fun _ _ => yq_lit))) fun ms ⟨m, r, e1, ⟨i, e2, _⟩, e3⟩ => by
    subst e1 e2 e3
    exact ⟨_, false, kpl2 (d := .bool (decide (i = 0))) (by
      simp only [oEq]; first | rfl | simp), _, rfl, trivial⟩
theorem dv_add1 {P P' : Int → Prop} (h : DV f e (IsI P)) (k : ∀ i, P i → P' (1 + i)) : DV (dG kAdd [dLit (.int 1), f]) e (IsI P') :=
  dv_G (dvs_cons (dv_lit (P := (· = .fz (.int 1))) rfl) (dvs_cons h dvs_nil)) fun ms ⟨m, r, e1, e4, m2, r2, e5, ⟨i, e2, p⟩, e3⟩ => by
    subst e1 e4 e5 e2 e3
    exact ⟨.own (.fz (.int (1 + i))), false, rfl, _, rfl, _, rfl, k i p⟩
end
end Q

set_option Elab.async false
set_option linter.all false
set_option maxRecDepth 100000
set_option maxHeartbeats 4000000
/-! More forms: name op= e (ints). -/
namespace Q
open PySem PySem.Spec PyProof.Rows L2
def dAug (i : Nat) (o : Int → Int → Option Int) (f : Ev → Res) : Ev → Out := fun env => match env[i]? with
  | some (some (.fz (.int a))) => (match f env with
    | .ok (.own (.fz (.int b))) e1 _ => (match o a b with
      | some c => put1 i (.fz (.int c)) e1
      | none => .stuck)
    | .ok _ _ _ => .stuck
    | .exn c e => .exn c e
    | .stuck => .stuck)
  | _ => .stuck
def ipO (o : Int → Int → Option Int) : TIp := fun x y H Q => ∃ i j c, x = .int i ∧ y = .int j ∧ o i j = some c ∧ Q (.int c) H
section
variable {X : Cx} {io : Nat → Bool} {f : Ev → Res} {e : Expr} {pos : Pos}
theorem ip_addO : PIp X .Add (ipO fun i j => some (i + j)) := fun pins s σ H x y v u Q I r1 r2 ⟨i, j, c, e1, e2, e3, q⟩ => ip_add pins s σ H x y v u Q I r1 r2 ⟨i, j, e1, e2, by cases e3; exact q⟩
theorem ip_subO : PIp X .Sub (ipO fun i j => some (i - j)) := fun pins s σ H x y v u Q I r1 r2 ⟨i, j, c, e1, e2, e3, q⟩ => ip_sub pins s σ H x y v u Q I r1 r2 ⟨i, j, e1, e2, by cases e3; exact q⟩
theorem ip_mulO : PIp X .Mult (ipO fun i j => if mulOk i j = true then some (i * j) else none) := fun pins s σ H x y v u Q I r1 r2 ⟨i, j, c, e1, e2, e3, q⟩ => by
  subst e1; subst e2
  by_cases hm : mulOk i j = true
  case neg => simp only [if_neg hm] at e3; cases e3
  simp only [if_pos hm] at e3
  cases e3
  obtain ⟨t, rfl⟩ := r1
  obtain ⟨t', rfl⟩ := r2
  exact PyProof.Rows.imul_int ⟨.int _, H, I.tok _, ⟨_, rfl⟩, q⟩ (CMulW.ok (of_decide_eq_true (show decide (i.natAbs.log2 + j.natAbs.log2 < 1000000) = true from hm) : i.natAbs.log2 + j.natAbs.log2 < 1000000))
theorem ss_aug {op : Operator} {o : Int → Int → Option Int} {i : Nat} {x : Str} {pos' : Pos} (ho : PIp X op (ipO o)) (hN : X.N.Nodup) (hi : X.N[i]? = some x) (hx : Loc X.env.scope x) (he : SE X f e) (hio : io i = false := by rfl) (hf : X.fn x = true ∨ X.env.scope.names.lookup x = some .local := by first | exact .inl rfl | exact .inr rfl | assumption) :
    SS X io (dAug i o f) (.AugAssign (.Name x pos') op e pos) := fun W tk => PS.imp (ps_aug hN hi hx (he W tk) ho hf) fun D σ H ⟨Z, O, env, I, h⟩ => by
  unfold dAug at h
  cases e0 : env[i]? with
  | none => rw [e0] at h; exact h.elim
  | some y =>
    rw [e0] at h
    cases y with
    | none => exact h.elim
    | some m =>
      cases m with
      | fz d =>
        cases d with
        | int a =>
          obtain ⟨v, F, e1, r, _⟩ := I.get e0
          have hv : v = .int a := by
            cases r with
            | fz r => exact r.intI
          subst hv
          refine ⟨.int a, e1, Z, O, env, I, ?_⟩
          simp only [] at h
          cases ef : f env with
          | stuck => rw [ef] at h; exact h
          | exn c e1 => rw [ef] at h; exact EndS.exn h
          | ok y e1 q =>
            rw [ef] at h
            cases y with
            | vw m => exact h.elim
            | own m =>
              cases m with
              | fz d =>
                cases d with
                | int b =>
                  simp only [] at h
                  cases eo : o a b with
                  | none => rw [eo] at h; exact h.elim
                  | some c =>
                    rw [eo] at h
                    simp only [put1] at h
                    split at h
                    · rename_i hl
                      intro v H' p
                      obtain ⟨O', F, I', r, nd, nz, st⟩ := p.own1
                      have hF : F = [] ∧ v = .int b := by
                        cases r with
                        | fz r => exact ⟨rfl, r.intI⟩
                      obtain ⟨rfl, rfl⟩ := hF
                      refine ⟨a, b, c, rfl, rfl, eo, ?_⟩
                      obtain ⟨O2, I2, st2⟩ := I'.put hl (m := .fz (.int c)) (.fz (.int c)) nd nz st
                      exact h _ _ ⟨⟨O2, I2, st2⟩, Held.set hio⟩
                    · exact h.elim
                | none => exact h.elim
                | bool _ => exact h.elim
                | str _ => exact h.elim
                | list _ => exact h.elim
                | tuple _ => exact h.elim
                | dict _ => exact h.elim
              | lst _ => exact h.elim
              | tup _ => exact h.elim
              | dK _ _ => exact h.elim
              | dT _ _ => exact h.elim
        | none => exact h.elim
        | bool _ => exact h.elim
        | str _ => exact h.elim
        | list _ => exact h.elim
        | tuple _ => exact h.elim
        | dict _ => exact h.elim
      | lst _ => exact h.elim
      | tup _ => exact h.elim
      | dK _ _ => exact h.elim
      | dT _ _ => exact h.elim
theorem aug_ {op : Operator} {o : Int → Int → Option Int} {x : Str} {pos' : Pos} (ho : PIp X op (ipO o)) (i : Nat) (nd : X.N.Nodup) (he : SE X f e) (hi : X.N[i]? = some x := by rfl) (hx : Loc X.env.scope x := by first | exact Or.inl rfl | exact Or.inr rfl) (hio : io i = false := by rfl) (hf : X.fn x = true ∨ X.env.scope.names.lookup x = some .local := by first | exact .inl rfl | exact .inr rfl) :
    SS X io (dAug i o f) (.AugAssign (.Name x pos') op e pos) := ss_aug ho nd hi hx he hio hf
end
end Q

set_option Elab.async false
set_option linter.all false
set_option maxRecDepth 100000
set_option maxHeartbeats 4000000
/-! More forms: x.append(e) on an owned list. -/
namespace Q
open PySem PySem.Spec PyProof.Rows L2
def isLst (e : Ev) (s : Nat) : Bool := match e[s]? with
  | some (some (.lst _)) => true
  | _ => false
def appD (d : PyData) (ms : List M) : Option (List M) := if ms.length < SZ then some (ms ++ [.fz d]) else none
def dApp (s : Nat) (f : Ev → Res) : Ev → Res := fun env => if isLst env s = true then (match dFr f env with
  | .ok (.own (.fz d)) e1 _ => (match wrAt s [] (appD d) e1 with
    | some e2 => .ok (.own (.fz .none)) e2 .l
    | none => .stuck)
  | .ok _ _ _ => .stuck
  | .exn c e => .exn c e
  | .stuck => .stuck) else .stuck
section
variable {K : PySem.W.Frag} {H : Hp} {G : Addr → Prop}
theorem RMs.snoc {xs : List V} {ms : List M} {F : List Addr} {v : V} {d : PyData} (r : RMs K H G xs ms F) (h : RF K H G v d) : RMs K H G (xs ++ [v]) (ms ++ [.fz d]) F := by
  have := r.app (F' := []) (.fz h)
  rwa [List.append_nil] at this
theorem SI.app_at {Z : Addr → Prop} {O : List Addr} {env e' : Ev} {σ : L2.St} {s : Nat} {d : PyData} {v : V} (I : SI K Z O env σ H) (r : RF K H (fun a => ¬ Z a ∧ a ∉ O) v d) (h : wrAt s [] (appD d) env = some e') :
    ∃ w a xs, σ[s]? = some (some w) ∧ Way K H w [] a ∧ H a = some (.lst xs) ∧ xs.length < SZ ∧ ∃ O2, SI K Z O2 e' σ (upd H a (.lst (xs ++ [v]))) ∧ Step O H O2 [] (upd H a (.lst (xs ++ [v]))) := by
  obtain ⟨m, m', em, ew, rfl⟩ := wrAt_some h
  obtain ⟨w, a, xs, ms, Fr, ms', h1, wy, ha, aO, rms, ef, frO, nr, go⟩ := SI.wr (F := []) (by rw [Zp_nil]; exact I) em ew
  unfold appD at ef
  split at ef
  case isFalse => cases ef
  rename_i hl
  cases ef
  obtain ⟨O2, I2, st2⟩ := go (O0 := O) (H0 := H) ((rms.imp (G' := fun a => ¬ Z a ∧ a ∉ O ∧ a ∉ ([] : List Addr)) fun a g => ⟨fun z => g.1 (.inl z), g.2, fun z => nomatch z⟩).snoc (r.imp fun a g => ⟨g.1, g.2, fun z => nomatch z⟩)) nr (fun b hb => .inl hb) (fun _ z => nomatch z) Step.refl
  exact ⟨w, a, xs, h1, wy, ha, by rw [rms.length]; exact hl, O2, I2, st2⟩
end
section
variable {X : Cx} {f : Ev → Res} {e : Expr} {px apos cpos : Pos}
theorem se_app {s : Nat} {x : Str} (hN : X.N[s]? = some x) (hv : Vis X.env.scope x) (he : SE X f e) (hd : (x == ("__debug__" : Str)) = false := by decide) (hcd : (x == ("__classdict__" : Str)) = false := by decide)
    (hbase : attributeBase (.Name x px) "append" X.env (eval (.Name x px) X.env) = eval (.Name x px) X.env := by rfl)
    (hfew : ((backTo cpos (starEach [e] X.env)).all (fun x => !x.1) && (backToKw cpos (keywordEach [] X.env)).all (fun x => x.1.isSome)
      && decide ([e].length + ([] : List Keyword).length + (if ([] : List Keyword).isEmpty then 0 else 1) < 30)) = true := by rfl)
    (hline : (apos.endLine == cpos.line) = true := by rfl) (hs : starEach [e] X.env = (false, eval e X.env) :: starEach [] X.env := by rfl) (hplain : (backTo cpos (starEach ([] : List Expr) X.env)).any (·.1) = false := by rfl) :
    SE X (dApp s f) (.Call (.Attribute (.Name x px) "append" apos) [e] [] cpos) := fun W tk => by
  refine PE.imp (pe_bm PySem.F.plainAttrs_list PySem.F.slot_list_append PySem.F.type_list_append mt_append (pe_var hN hv hd hcd) (pa_cons (se_fr he W tk) pa_nil hs) hbase hfew hline hs hplain) fun σ H Q ⟨Z, O, env, I, h⟩ => ?_
  unfold dApp at h
  by_cases hl : isLst env s = true
  case neg => rw [if_neg hl] at h; exact h.elim
  rw [if_pos hl] at h
  unfold isLst at hl
  split at hl
  case h_2 => cases hl
  rename_i ms em
  obtain ⟨w, F, h1, r, _⟩ := I.get em
  have rw0 : ∃ a xs, w = .ref a ∧ H a = some (.lst xs) := by
    cases r with
    | lst ha _ => exact ⟨_, _, rfl, ha⟩
  obtain ⟨a0, xs0, rfl, ha0⟩ := rw0
  refine ⟨.ref a0, h1, .inl ⟨rfl, xs0, .inl (.inl ha0)⟩, Z, O, env, I, ?_⟩
  cases ef : dFr f env with
  | stuck => rw [ef] at h; exact h
  | exn c e1 => rw [ef] at h; exact h
  | ok y e1 q =>
    rw [ef] at h
    cases y with
    | vw m => exact h.elim
    | own m =>
      cases m with
      | fz d =>
        simp only [] at h
        cases eo : wrAt s [] (appD d) e1 with
        | none => rw [eo] at h; exact h.elim
        | some e2 =>
          rw [eo] at h
          intro v H1 p1
          obtain ⟨O1, I1, r1, st1, _⟩ := p1.fz1
          obtain ⟨w', a, xs, h1', wy, ha2, hlen, O2, I2, st2⟩ := SI.app_at I1 r1 eo
          rw [h1] at h1'; cases h1'
          cases wy
          refine ⟨a0, xs, v, rfl, rfl, ha2, hlen, h _ _ ⟨⟨O2, [], ?_⟩⟩⟩
          exact ⟨by rw [Zp_nil]; exact I2, .own (.fz .non) .nil, List.Pairwise.nil, (fun _ z => nomatch z), st1.tr0 st2, (fun z => absurd rfl z), fun z => by cases z⟩
      | lst _ => exact h.elim
      | tup _ => exact h.elim
      | dK _ _ => exact h.elim
      | dT _ _ => exact h.elim
theorem app_ (s : Nat) {x : Str} (he : SE X f e) (hN : X.N[s]? = some x := by rfl) (hv : Vis X.env.scope x := by first | exact Or.inl rfl | exact Or.inr (Or.inl rfl) | exact Or.inr (Or.inr rfl)) (hd : (x == ("__debug__" : Str)) = false := by decide) (hcd : (x == ("__classdict__" : Str)) = false := by decide)
    (hbase : attributeBase (.Name x px) "append" X.env (eval (.Name x px) X.env) = eval (.Name x px) X.env := by rfl)
    (hfew : ((backTo cpos (starEach [e] X.env)).all (fun x => !x.1) && (backToKw cpos (keywordEach [] X.env)).all (fun x => x.1.isSome)
      && decide ([e].length + ([] : List Keyword).length + (if ([] : List Keyword).isEmpty then 0 else 1) < 30)) = true := by rfl)
    (hline : (apos.endLine == cpos.line) = true := by rfl) (hs : starEach [e] X.env = (false, eval e X.env) :: starEach [] X.env := by rfl) (hplain : (backTo cpos (starEach ([] : List Expr) X.env)).any (·.1) = false := by rfl) :
    SE X (dApp s f) (.Call (.Attribute (.Name x px) "append" apos) [e] [] cpos) := se_app hN hv he hd hcd hbase hfew hline hs hplain
end
end Q

set_option Elab.async false
set_option linter.all false
set_option maxRecDepth 100000
set_option maxHeartbeats 4000000
/-! More forms: x[i] op= e on an owned list of ints; list methods of one argument. -/
namespace Q
open PySem PySem.Spec PyProof.Rows L2
section
variable {X : Cx} {io : Nat → Bool} {f g : Ev → Res} {e i a : Expr} {pos px tpos : Pos}
theorem get_lst : PGet X (rIxL X.K) := by
  intro pns st ϱ HH bo bi ov iv QQ Inn rb rk ⟨ad, ys, n, y, eb, en, sq, ea, q⟩
  subst eb en
  cases rb
  obtain ⟨t, rfl⟩ := rk
  obtain ⟨its, r, pl, hz⟩ := Inn.list sq
  obtain ⟨j, s1, s2, s3, s4, s5⟩ := atI_get ea
  obtain ⟨wv, ew, ry⟩ := r.get s2
  have len := r.length
  have big := line63
  have done : EP X pns ϱ QQ wv st := ⟨y, HH, Inn, ry, q⟩
  by_cases pz : 0 ≤ n
  · have ej : n.toNat = j := by
      rw [seqIndex_of pz s5] at s1
      exact Option.some.inj s1
    exact PySem.wpAny_getItem_list pl.isList pz (by omega) (by rw [ej]; simpa using ew) done
  · have ej : (n + (its.toArray.size : Int)).toNat = j := by
      rw [seqIndex_neg (by omega) s4] at s1
      rw [List.size_toArray, ← len]
      exact Option.some.inj s1
    exact PySem.wpAny_getItem_list_neg pl.isList (by omega) (by rw [List.size_toArray] <;> omega) (by omega) (by rw [ej]; simpa using ew) done
/-- x[k] op= value, by ints -/
def dAugP (s : Nat) (o : Int → Int → Option Int) (f g : Ev → Res) : Ev → Out := fun env => if held1 env s = true then (match intE (f env) with
  | some (k, e1, _) => (match e1[s]? with
    | some (some (.lst ms)) => (match atI ms k with
      | some (.fz (.int a)) => (match g e1 with
        | .ok (.own (.fz (.int b))) e2 _ => (match o a b with
          | some c => (match wrAt s [] (setD k (.int c)) e2 with
            | some e3 => .nx e3
            | none => .stuck)
          | none => .stuck)
        | .ok _ _ _ => .stuck
        | .exn c e => .exn c e
        | .stuck => .stuck)
      | _ => .stuck)
    | _ => .stuck)
  | none => .stuck) else .stuck
theorem ss_augP {op : Operator} {o : Int → Int → Option Int} {s : Nat} {x : Str} (ho : PIp X op (ipO o)) (hN : X.N[s]? = some x) (hv : Vis X.env.scope x) (hi : SE X f i) (he : SE X g e) (hd : (x == ("__debug__" : Str)) = false := by decide) (hcd : (x == ("__classdict__" : Str)) = false := by decide)
    (ha : ∀ ov iv new, augStore i ov iv new = (do holding [new, ov, iv] (setItem ov iv new); release [new, ov, iv] []; pure .next) := by intros; rfl) :
    SS X io (dAugP s o f g) (.AugAssign (.Subscript (.Name x px) i tpos) op e pos) := fun W tk => PS.imp (ps_augS (pe_var hN hv hd hcd) (hi W0 takes0) get_lst (he W tk) ho set_list ha) fun D σ H ⟨Z, O, env, I, h⟩ => by
  unfold dAugP at h
  split at h
  case isFalse => exact h.elim
  rename_i hh
  obtain ⟨w, hw⟩ := I.val hh
  refine ⟨w, hw, Z, O, env, I, ?_⟩
  split at h
  case h_2 => exact h.elim
  rename_i k e1 q1 hf
  rw [intE_some hf]
  intro iv H1 p1
  obtain ⟨O1, I1, r1, st1, _⟩ := p1.fz1
  cases r1.intI
  split at h
  case h_2 => exact h.elim
  rename_i ms em
  split at h
  case h_2 => exact h.elim
  rename_i a ea
  obtain ⟨w', F1, hw', rm1, _⟩ := I1.get em
  rw [hw] at hw'; cases hw'
  cases rm1 with
  | lst ha1 rms1 =>
    rename_i a1 xs1 F0 _
    have hx : atI xs1 k = some (V.int a) := by
      unfold atI at ea ⊢
      rw [rms1.length]
      obtain ⟨j, ej, ej2⟩ := Option.bind_eq_some_iff.mp ea
      rw [ej]
      obtain ⟨v, _, Fi, _, ev, _, rv, _⟩ := rms1.at ej2
      cases rv with
      | fz rv => cases rv.intI; exact ev
    refine ⟨a1, xs1, k, V.int a, rfl, rfl, .inl (.inl ha1), hx, Z, O1, e1, I1, ?_⟩
    cases eg : g e1 with
    | stuck => rw [eg] at h; exact h
    | exn c e2 => rw [eg] at h; exact fun cls d H' p => EndS.exn (h.after st1 Held.refl) cls d H' p
    | ok y e2 q2 =>
      rw [eg] at h
      split at h
      case h_2 => exact h.elim
      case h_3 => contradiction
      case h_4 => contradiction
      rename_i b e2' q2' eq2
      cases eq2
      split at h
      case h_2 => exact h.elim
      rename_i c eo
      split at h
      case h_2 => exact h.elim
      rename_i e3 ew
      intro bv H2 p2
      obtain ⟨O2, I2, r2, st2, _⟩ := p2.fz1
      cases r2.intI
      refine ⟨a, b, c, rfl, rfl, eo, ?_⟩
      obtain ⟨w', a2, xs2, j, h1, wy, ha3, hj, O3, I3, st3⟩ := SI.put_at I2 (RF.int c) ew
      rw [hw] at h1; cases h1
      cases wy
      exact ⟨a1, xs2, k, j, rfl, rfl, ha3, hj, h _ _ ⟨⟨O3, I3, (st1.tr0 st2).tr0 st3⟩, Held.refl⟩⟩
theorem augP_ {op : Operator} {o : Int → Int → Option Int} {x : Str} (ho : PIp X op (ipO o)) (s : Nat) (hi : SE X f i) (he : SE X g e) (hN : X.N[s]? = some x := by rfl) (hv : Vis X.env.scope x := by first | exact Or.inl rfl | exact Or.inr (Or.inl rfl) | exact Or.inr (Or.inr rfl)) (hd : (x == ("__debug__" : Str)) = false := by decide) (hcd : (x == ("__classdict__" : Str)) = false := by decide)
    (ha : ∀ ov iv new, augStore i ov iv new = (do holding [new, ov, iv] (setItem ov iv new); release [new, ov, iv] []; pure .next) := by intros; rfl) :
    SS X io (dAugP s o f g) (.AugAssign (.Subscript (.Name x px) i tpos) op e pos) := ss_augP ho hN hv hi he hd hcd ha
end
/-! ### x.m(y), x a list -/
def lsV : Val → Bool
  | .own (.fz (.list _)) => true
  | .own (.lst _) => true
  | .vw (.lst _) => true
  | _ => false
def lsR : Res → Bool
  | .ok x _ _ => lsV x
  | _ => true
def dMt (k : List Val → Option (Val × Bool)) (f g : Ev → Res) : Ev → Res := fun env => if lsR (f env) = true then dG k [f, g] env else .stuck
theorem lsV_ref {K : PySem.W.Frag} {H : Hp} {G Gv : Addr → Prop} {F : List Addr} {v : V} {x : Val} (r : RVs K H G Gv [v] [x] F) (h : lsV x = true) : ∃ a ws, v = .ref a ∧ L2.Rd H a (.lst ws) := by
  unfold lsV at h
  split at h
  · cases r.fz1 with
    | lst hq hg rs => exact ⟨_, _, rfl, hq⟩
  · obtain ⟨F', r0, _⟩ := r.own1
    cases r0 with
    | lst hq rs => exact ⟨_, _, rfl, .inl hq⟩
  · obtain ⟨F', r0, _⟩ := r.vw1
    cases r0 with
    | lst hq rs => exact ⟨_, _, rfl, .inl hq⟩
  · cases h
theorem tu_mt {K : PySem.W.Frag} {mg : Str → Option Value} {W : WX} {k : List Val → Option (Val × Bool)} {f g : Ev → Res} {σ : L2.St} {H : Hp} {Q : VK} {R : List V → Hp → Prop} (h : TU K mg W (dMt k f g) σ H Q)
    (c : ∀ Z O env env' q x y z b, SI K Z O env σ H → k [x, y] = some (z, b) → ∀ vs H', PostL K Z O env σ H vs H' [x, y] env' q → (∀ v'' H'', Post K Z O env σ H v'' H'' z env' (q.f b) → Q v'' H'') → R vs H') :
    TU K mg W f σ H fun v H1 => (∃ a ws, v = .ref a ∧ L2.Rd H1 a (.lst ws)) ∧ TUL K mg W (evs [g]) σ H1 fun ws H2 => R (v :: ws) H2 := by
  obtain ⟨Z, O, env, I, h⟩ := h
  refine ⟨Z, O, env, I, ?_⟩
  unfold dMt at h
  by_cases hl : lsR (f env) = true
  case neg => rw [if_neg hl] at h; exact h.elim
  rw [if_pos hl] at h
  unfold dG evs at h
  cases ef : f env with
  | stuck => rw [ef] at h; exact h
  | exn cc env1 => rw [ef] at h; exact h
  | ok x env1 q1 =>
    rw [ef] at h hl
    intro v H1 p1
    obtain ⟨O1, F1, I1, r1, nd1, nz1, st1, _⟩ := p1.ex
    refine ⟨lsV_ref r1 hl, ?_⟩
    cases er : evs [g] env1 with
    | stuck => simp only [er] at h
    | exn cc env2 =>
      simp only [er] at h
      refine ⟨Zp Z F1, O1, env1, I1, ?_⟩
      rw [er]
      exact fun cls d H' px => h cls d H' (PostX.after (v := v) (x := x) (q1 := q1) st1 px)
    | ok ys env2 q2 =>
      simp only [er] at h
      obtain ⟨O1', F1', I1', kk⟩ := PostL.cons (q2 := q2) p1
      refine ⟨Zp Z F1', O1', env1, I1', ?_⟩
      rw [er]
      intro vs H2 p2
      have hlen := evs_len er
      match ys, hlen, er, p2, h with
      | [y], _, er, p2, h =>
        have go : ∀ (hv : x.isV = true → q2 ≠ .l), (match k [x, y] with
            | some (z, b) => Res.ok z env2 ((q1.j q2).f b)
            | none => Res.stuck) = (match k [x, y] with
            | some (z, b) => Res.ok z env2 ((q1.j q2).f b)
            | none => Res.stuck) → (match (match k [x, y] with
            | some (z, b) => Res.ok z env2 ((q1.j q2).f b)
            | none => Res.stuck) with
            | .ok z env' q => ∀ v H', Post K Z O env σ H v H' z env' q → Q v H'
            | .exn c env' => ∀ cls d H', PostX K mg Z O σ H cls d H' c env' → W cls d σ H'
            | .stuck => False) → R (v :: vs) H2 := fun hv _ h => by
          cases ek : k [x, y] with
          | none => rw [ek] at h; exact h.elim
          | some zb =>
            obtain ⟨z, b⟩ := zb
            rw [ek] at h
            exact c Z O env env2 (q1.j q2) x y z b I ek _ _ (kk p2 hv) h
        cases x with
        | own m => exact go (fun z => nomatch z) rfl h
        | vw m =>
          cases q2 with
          | l => exact h.elim
          | p => exact go (fun _ z => nomatch z) rfl h
          | q => exact go (fun _ z => nomatch z) rfl h
/-- a list's method of one argument, by its rule -/
def MtV (X : Cx) (id : String) (k : List Val → Option (Val × Bool)) : Prop :=
  ∃ r, MtR X id r ∧ ∀ Z O env env' σ H H' v w x y z b q Q, PostL X.K Z O env σ H [v, w] H' [x, y] env' q → k [x, y] = some (z, b) → (∀ v' H'', Post X.K Z O env σ H v' H'' z env' (q.f b) → Q v' H'') → r v [w] H' Q
section
variable {X : Cx} {f g : Ev → Res} {e a : Expr} {apos cpos : Pos} {k : List Val → Option (Val × Bool)} {mn : Str} {id : String}
theorem se_mt (sl : Slot "list" mn id) (ty : typeOf (.builtin id) = pure (.type "method_descriptor")) (hm : MtV X id k) (ha : SE X f a) (hb : SE X g e)
    (hbase : attributeBase a mn X.env (eval a X.env) = eval a X.env := by rfl)
    (few : ((backTo cpos (starEach [e] X.env)).all (fun x => !x.1) && (backToKw cpos (keywordEach [] X.env)).all (fun x => x.1.isSome) && decide ([e].length + ([] : List Keyword).length + (if ([] : List Keyword).isEmpty then 0 else 1) < 30)) = true := by rfl)
    (hline : (apos.endLine == cpos.line) = true := by rfl) (hs : starEach [e] X.env = (false, eval e X.env) :: starEach [] X.env := by rfl) (pln : (backTo cpos (starEach ([] : List Expr) X.env)).any (·.1) = false := by rfl) :
    SE X (dMt k f g) (.Call (.Attribute a mn apos) [e] [] cpos) := fun W tk => by
  obtain ⟨r, h1, h2⟩ := hm
  refine PE.imp (pe_bm PySem.F.plainAttrs_list sl ty h1 (ha W tk) (sa_cons hb sa_nil hs W tk) hbase few hline hs pln) fun σ H Q h => ?_
  have h3 := tu_mt (R := fun vs H' => ∀ v w, vs = [v, w] → r v [w] H' Q) h fun Z O env env' q x y z b I hk vs H' pl kk v w ev => by
    subst ev
    exact h2 Z O env env' σ H H' v w x y z b q Q pl hk kk
  obtain ⟨Z, O, env, I, h3⟩ := h3
  refine ⟨Z, O, env, I, ?_⟩
  cases ef : f env with
  | stuck => rw [ef] at h3; exact h3
  | exn c e1 => rw [ef] at h3; exact h3
  | ok x e1 q =>
    rw [ef] at h3
    intro v H1 p1
    obtain ⟨⟨p, ws, ev, hq⟩, h4⟩ := h3 v H1 p1
    subst ev
    refine ⟨.inl ⟨rfl, ws, .inl hq⟩, ?_⟩
    obtain ⟨Z2, O2, env2, I2, h4⟩ := h4
    refine ⟨Z2, O2, env2, I2, ?_⟩
    cases eg : evs [g] env2 with
    | stuck => rw [eg] at h4; exact h4
    | exn c e1 => rw [eg] at h4; exact h4
    | ok ys e3 q3 =>
      rw [eg] at h4
      intro us H2 p2
      obtain ⟨O3, F3, _, rr, _⟩ := p2.ex
      have hlen := (RVs.length rr).trans (evs_len eg)
      match us, hlen with
      | [u], _ => exact h4 [u] H2 p2 _ _ rfl
end
def kLCount : List Val → Option (Val × Bool)
  | [x, y] => (lv x).bind fun ds => (intsD ds).bind fun ns => match valD y with
    | some (.int k) => some (.own (.fz (.int (ns.count k : Nat))), false)
    | _ => none
  | _ => none
theorem mtv_count {X : Cx} : MtV X "list.count" kLCount := by
  refine ⟨_, mt_lcount, fun Z O env env' σ H H' v w x y z b q Q pl he kk => ?_⟩
  unfold kLCount at he
  obtain ⟨ds, ea, he⟩ := Option.bind_eq_some_iff.mp he
  obtain ⟨ns, eb, he⟩ := Option.bind_eq_some_iff.mp he
  split at he
  case h_2 => cases he
  rename_i k ek
  cases he
  obtain ⟨O', F, pa⟩ := pl.ex
  obtain ⟨a, ws, rfl, h1, r1⟩ := pa.2.1.lv ea
  obtain ⟨F', rt, _⟩ := pa.2.1.tail
  have rd : RFs X.K H' Top [w] [.int k] := rt.data (by simp [valDs, ek])
  cases rd with
  | cons r0 _ =>
    cases r0.intI
    exact ⟨a, ns, k, rfl, rfl, by rw [← RFs.intsD r1 eb]; exact .inl h1, kk _ _ (pl.plain fun G => .int _)⟩
def kLIndex : List Val → Option (Val × Bool)
  | [x, y] => (lv x).bind fun ds => (valD y).bind fun d => if SeqAt.shaped (.list ds) = true ∧ SeqAt.shaped d = true then (ds.findIdx? fun z => PyData.eqv z d).map fun j => (.own (.fz (.int (j : Nat))), false) else none
  | _ => none
theorem mtv_index {X : Cx} (hu : X.A.units + 65 < cLine) : MtV X "list.index" kLIndex := by
  refine ⟨_, mt_indexD hu, fun Z O env env' σ H H' v w x y z b q Q pl he kk => ?_⟩
  unfold kLIndex at he
  obtain ⟨ds, ea, he⟩ := Option.bind_eq_some_iff.mp he
  obtain ⟨d, eb, he⟩ := Option.bind_eq_some_iff.mp he
  split at he
  case isFalse => cases he
  rename_i hs
  obtain ⟨j, ej, e2⟩ := Option.map_eq_some_iff.mp he
  cases e2
  obtain ⟨O', F, pa⟩ := pl.ex
  obtain ⟨a, ws, rfl, h1, r1⟩ := pa.2.1.lv ea
  obtain ⟨F', rt, _⟩ := pa.2.1.tail
  have rd : RFs X.K H' Top [w] [d] := rt.data (by simp [valDs, eb])
  cases rd with
  | cons r0 _ =>
    obtain ⟨hj, e3, e4⟩ := List.findIdx?_eq_some_iff_getElem.mp ej
    refine ⟨a, w, d, ds, j, ds[j], rfl, rfl, .lst (.inl h1) r1.dp, r0.dp, hs.1, hs.2, List.getElem?_eq_getElem hj, e3, fun m z' hm hz => ?_, kk _ _ (pl.plain fun G => .int _)⟩
    obtain ⟨hm2, rfl⟩ := List.getElem?_eq_some_iff.mp hz
    exact Bool.eq_false_iff.mpr (e4 m hm)
section
variable {X : Cx} {f g : Ev → Res} {e a : Expr} {apos cpos : Pos}
theorem lcount_ (ha : SE X f a) (hb : SE X g e)
    (hbase : attributeBase a "count" X.env (eval a X.env) = eval a X.env := by rfl)
    (few : ((backTo cpos (starEach [e] X.env)).all (fun x => !x.1) && (backToKw cpos (keywordEach [] X.env)).all (fun x => x.1.isSome) && decide ([e].length + ([] : List Keyword).length + (if ([] : List Keyword).isEmpty then 0 else 1) < 30)) = true := by rfl)
    (hline : (apos.endLine == cpos.line) = true := by rfl) (hs : starEach [e] X.env = (false, eval e X.env) :: starEach [] X.env := by rfl) (pln : (backTo cpos (starEach ([] : List Expr) X.env)).any (·.1) = false := by rfl) :
    SE X (dMt kLCount f g) (.Call (.Attribute a "count" apos) [e] [] cpos) := se_mt PySem.F.slot_list_count PySem.F.type_list_count mtv_count ha hb hbase few hline hs pln
theorem lindex_ (hu : X.A.units + 65 < cLine) (ha : SE X f a) (hb : SE X g e)
    (hbase : attributeBase a "index" X.env (eval a X.env) = eval a X.env := by rfl)
    (few : ((backTo cpos (starEach [e] X.env)).all (fun x => !x.1) && (backToKw cpos (keywordEach [] X.env)).all (fun x => x.1.isSome) && decide ([e].length + ([] : List Keyword).length + (if ([] : List Keyword).isEmpty then 0 else 1) < 30)) = true := by rfl)
    (hline : (apos.endLine == cpos.line) = true := by rfl) (hs : starEach [e] X.env = (false, eval e X.env) :: starEach [] X.env := by rfl) (pln : (backTo cpos (starEach ([] : List Expr) X.env)).any (·.1) = false := by rfl) :
    SE X (dMt kLIndex f g) (.Call (.Attribute a "index" apos) [e] [] cpos) := se_mt PySem.F.slot_list_index PySem.F.type_list_index (mtv_index hu) ha hb hbase few hline hs pln
end
/-! ### sum of a list or a tuple -/
def oSumA : List PyData → Option PyData
  | [.list ds] => (intsD ds).map fun ns => .int ns.sum
  | [.tuple ds] => (intsD ds).map fun ns => .int ns.sum
  | _ => none
theorem cr_sumT {X : Cx} (hc : X.calm = true) : CallR X (.builtin "sum") (fun vs H Q => ∃ (a : Addr) (ns : List Int), vs = [V.ref a] ∧ SqT X.K H a (ns.map V.int) ∧ Q (.int ns.sum) H) := by
  intro pns st ϱ HH us vs QQ Inn rr h
  obtain ⟨a, ns, eu, hs, q⟩ := h
  subst eu
  obtain ⟨its, rv, pt, _⟩ := Inn.tuple hs
  rw [Vals.ref1 rr]
  have tup : st.heap.IsTuple a its.toArray := by
    obtain ⟨o, e, c, n, d⟩ := pt
    exact ⟨o, e, c, n, d⟩
  obtain ⟨xs, ex⟩ := rv.ints.allInts.items
  have hn : numsOf (intItems xs).toList = ns := by rw [← ex]; exact rv.ints.numsOf
  rw [nums_intItems] at hn
  rw [ex] at tup
  refine PySem.W.ktm_sumG (Inn.ok.hd hc) tup fun h' tk t' hk => ?_
  refine ⟨.int ns.sum, HH, Inn.kept hk, ⟨t', ?_⟩, q⟩
  rw [preSum_eq, List.take_of_length_le (by simp), hn]
theorem callv_sumA {X : Cx} (hc : X.calm = true) : CallV X (.builtin "sum") (kPl oSumA) := callv_of ((cr_sum hc).or (cr_sumT hc)) fun vs H Q ds d hd he k => by
  unfold oSumA at he
  split at he
  · obtain ⟨ns, e, rfl⟩ := Option.map_eq_some_iff.mp he
    obtain ⟨v, rfl, r⟩ := hd.v1
    cases r with
    | lst h g rs => exact .inl ⟨_, ns, rfl, .inl (by rw [← rs.intsD e]; exact h), k _ fun G => .int _⟩
  · obtain ⟨ns, e, rfl⟩ := Option.map_eq_some_iff.mp he
    obtain ⟨v, rfl, r⟩ := hd.v1
    cases r with
    | tup h rs => exact .inr ⟨_, ns, rfl, by rw [← rs.intsD e]; exact h.t, k _ fun G => .int _⟩
  · cases he
end Q

set_option Elab.async false
set_option linter.all false
set_option maxRecDepth 100000
set_option maxHeartbeats 4000000
/-! Plain lemmas that more than one law takes (most first written for k01). -/
namespace Q
open PySem PySem.Spec PyProof.Rows L2
abbrev mal : Exn := ⟨"Malformed", []⟩
def inP (lo hi : Int) (p2 : Int → Int → Bool) : PyData → Bool
  | .int k => decide (lo ≤ k) && p2 k hi
  | _ => false
theorem inP_R (lo hi : Int) (d : PyData) : inP lo hi (fun i j => decide (i ≤ j)) d = inR lo hi d := by cases d <;> rfl
theorem oifT {t : Ev → Res} {a b : Ev → Out} {env : Ev} {c : Bool} (ht : YQ t env (.own (.fz (.bool c)))) (hc : c = true) : outR (dIfS t a b env) = outR (a env) := by rw [oif ht, if_pos hc]
theorem oifF {t : Ev → Res} {a b : Ev → Out} {env : Ev} {c : Bool} (ht : YQ t env (.own (.fz (.bool c)))) (hc : c = false) : outR (dIfS t a b env) = outR (b env) := by rw [oif ht, if_neg (by simp [hc])]
theorem out_ifT {t : Ev → Res} {a b : Ev → Out} {env : Ev} {c : Bool} (ht : YQ t env (.own (.fz (.bool c)))) (hc : c = true) : dIfS t a b env = a env := by rw [out_if ht, if_pos hc]
theorem out_ifF {t : Ev → Res} {a b : Ev → Out} {env : Ev} {c : Bool} (ht : YQ t env (.own (.fz (.bool c)))) (hc : c = false) : dIfS t a b env = b env := by rw [out_if ht, if_neg (by simp [hc])]
theorem try_x {b r : Ev → Out} {env : Ev} (h : outR (b env) = .exn mal) : outR (dSeq (dTry b [([("Malformed", true)], dRet (dLit (.bool true)))]) r env) = .ret (.fz (.bool true)) := by
  cases e : b env with
  | exn c e1 =>
    rw [e] at h
    cases h
    unfold dSeq dTry
    simp only [e]
    rfl
  | nx e1 => rw [e] at h; cases h
  | ret m e1 => rw [e] at h; cases h
  | brk e1 => rw [e] at h; cases h
  | ct e1 => rw [e] at h; cases h
  | stuck => rw [e] at h; cases h
theorem try_n {b r : Ev → Out} {hs : List (Takers × (Ev → Out))} {env e1 : Ev} (h : b env = .nx e1) : outR (dSeq (dTry b hs) r env) = outR (r e1) := by
  unfold dSeq dTry
  rw [h]
theorem oexl {x : Exn} {f : Ev → Res} {env e : Ev} (h : f env = .exn x e) : outR (dEx f env) = .exn x := by
  unfold dEx; rw [h]; rfl
theorem all2_F {α : Type} {F : α → M} {P : α → Prop} : ∀ {ds : List PyData} {ms : List M}, All2 (fun _ m => ∃ a, m = F a ∧ P a) ds ms → ∃ as : List α, ms = as.map F ∧ as.length = ds.length ∧ ∀ a ∈ as, P a
  | _, _, .nil => ⟨[], rfl, rfl, fun _ h => by cases h⟩
  | _, _, .cons ⟨a, h1, h2⟩ t => by
    obtain ⟨as, h3, h4, h5⟩ := all2_F t
    subst h1 h3
    refine ⟨a :: as, rfl, by simp [h4], fun x hx => ?_⟩
    cases hx with
    | head => exact h2
    | tail _ hx => exact h5 x hx
theorem lg_small {m : Int} (h0 : 0 ≤ m) (h : m ≤ 1000000) : m.natAbs.log2 < 9000 := by
  have h1 : m.natAbs < 2 ^ 20 := by omega
  by_cases hz : m.natAbs = 0
  · rw [hz]; decide
  · have := (Nat.log2_lt hz).mpr h1
    omega
theorem dv_tupOf {f : Ev → Res} {e : Dr → Ev} {R : List M → Prop} {P : M → Prop} (h : DV f e fun x => ∃ ms, x = .own (.lst ms) ∧ R ms) (hk : ∀ ms, R ms → ∃ ds, seqv (.own (.lst ms)) = some ds ∧ P (.fz (.tuple ds))) : DV (dG kTupOf [f]) e fun x => ∃ mm, x = .own mm ∧ P mm := fun D ok => by
  obtain ⟨x, D2, q, ok2, ⟨ms, rfl, r⟩, e1⟩ := h D ok
  obtain ⟨ds, h1, h2⟩ := hk ms r
  refine ⟨_, D2, (q.j .p).f true, ok2, ⟨_, rfl, h2⟩, ?_⟩
  have : evs [f] (e D) = .ok [.own (.lst ms)] (e D2) (q.j .p) := by
    unfold evs
    rw [e1]
    rfl
  unfold dG
  rw [this]
  simp only [kTupOf, h1, Option.map_some]
theorem dv_frI {f : Ev → Res} {e : Dr → Ev} {P : Int → Prop} (h : DV f e (IsI P)) : DV (dFr f) e (IsI P) := dv_fr (h.imp fun x ⟨m, hx, i, hm, p⟩ => by subst hx hm; exact ⟨_, _, rfl, rfl, _, rfl, i, rfl, p⟩)
theorem rngD_len (n : Nat) : (rngD 0 n).length = n := by
  have := congrArg List.length (rngD_map (fun d => d) n)
  simpa using this
theorem yqs_lst {fs : List (Ev → Res)} {env : Ev} {ds : List PyData} (h : YQs fs env (ds.map fun d => .own (.fz d))) : YQ (dLst fs) env (.own (.lst (ds.map .fz))) := yq_Fn h (by
  have := owns_own (ds.map .fz)
  rw [List.map_map] at this
  show (owns (ds.map (Val.own ∘ M.fz))).map _ = _
  rw [this]; rfl)
theorem noDicts_of : ∀ {ds : List PyData}, (∀ d ∈ ds, noDict d = true) → noDicts ds = true
  | [], _ => rfl
  | d :: ds, h => by
    unfold noDicts
    rw [h d List.mem_cons_self, noDicts_of fun x hx => h x (List.mem_cons_of_mem _ hx)]; rfl
theorem noDict_tup {ds : List PyData} (h : ∀ d ∈ ds, noDict d = true) : noDict (.tuple ds) = true := by unfold noDict; exact noDicts_of h
theorem noDict_lst {ds : List PyData} (h : ∀ d ∈ ds, noDict d = true) : noDict (.list ds) = true := by unfold noDict; exact noDicts_of h
theorem cut_mem {ds : List PyData} {lo hi : Option Int} {d : PyData} (h : d ∈ cutD ds lo hi) : d ∈ ds := List.mem_of_mem_drop (List.mem_of_mem_take h)
theorem cut_le {ds : List PyData} {lo hi : Option Int} : (cutD ds lo hi).length ≤ ds.length := by
  unfold cutD
  rw [List.length_take, List.length_drop]; omega
theorem noDict_in {ds : List PyData} (h : noDict (.tuple ds) = true) : ∀ d ∈ ds, noDict d = true := noDicts_mem (by unfold noDict at h; exact h)
theorem dv_gt0 {f : Ev → Res} {e : Dr → Ev} {P : Int → Prop} (h : DV f e (IsI P)) : DV (dG (kPl oGt) [f, dLit (.int 0)]) e fun x => ∃ b, x = .own (.fz (.bool b)) ∧ True :=
  dv_G (dvs_cons h (dvs_is1 (dv_q fun _ _ => yq_lit))) fun ms ⟨m, r, e1, ⟨i, e2, _⟩, e3⟩ => by
    subst e1 e2 e3
    exact ⟨_, false, kpl2 (d := .bool (decide (0 < i))) rfl, _, rfl, trivial⟩
def NO (b : Ev → Out) (env : Ev) (I : Ev → Prop) : Prop := ∃ e2, b env = .nx e2 ∧ I e2
theorem ints_nd (os : List Int) : noDict (.tuple (os.map .int)) = true := noDict_tup fun x hx => by
  obtain ⟨i, _, rfl⟩ := List.mem_map.mp hx
  rfl
theorem ix_int {r : List Int} {g : Nat} (h : g < r.length) : ixV (.own (.fz (.tuple (r.map .int)))) (g : Int) = some (.own (.fz (.int (r.getD g 0)))) := by
  simp only [ixV, atI, ixN]
  rw [if_pos (by omega), if_pos (by simp; omega)]
  simp [h]
theorem rngD_ints (n : Nat) : rngD 0 n = (List.range n).map fun i => .int (i : Nat) := by
  have := rngD_map (fun d => d) n
  rwa [List.map_id'] at this
theorem yq_rngN {f : Ev → Res} {env : Ev} {n : Nat} (h : YQ f env (.own (.fz (.int n)))) (h1 : n ≤ 100) : YQ (dG kRng [f]) env (.own (.fz (.list (rngD 0 n)))) := by
  have := yq_rng h (by omega) (by unfold SZ; omega)
  rwa [Int.toNat_natCast] at this
theorem yq_eqb {f g : Ev → Res} {env : Ev} {a b : Bool} (h : YQ f env (.own (.fz (.bool a)))) (h2 : YQ g env (.own (.fz (.bool b)))) : YQ (dG (kPl oEq) [f, g]) env (.own (.fz (.bool (a == b)))) := yq_p2 h h2 (by cases a <;> cases b <;> rfl)
theorem yq_isnt {f g : Ev → Res} {env : Ev} {a b : Bool} (h : YQ f env (.own (.fz (.bool a)))) (h2 : YQ g env (.own (.fz (.bool b)))) : YQ (dG (kIs true) [f, g]) env (.own (.fz (.bool (!(a == b))))) := yq_G (b := false) (y2 h h2) (by cases a <;> cases b <;> rfl)
theorem yq_ne_sh {f g : Ev → Res} {env : Ev} {k : Nat} {a : PyData} (h : YQ f env (.own (.fz a))) (h2 : YQ g env (.own (.fz a))) (hs : Sh k a) (hk : k ≤ 64) : YQ (dG (kPl oNe) [f, g]) env (.own (.fz (.bool false))) := yq_p2 h h2 (oNe_self hs hk)
theorem atI_of {α : Type} {xs : List α} {i : Int} (h0 : 0 ≤ i) (h : i < xs.length) : ∃ x, x ∈ xs ∧ atI xs i = some x := by
  have hj : i.toNat < xs.length := by omega
  refine ⟨xs[i.toNat], List.getElem_mem hj, ?_⟩
  simp only [atI, ixN]
  rw [if_pos h0, if_pos h]
  simp [hj]
theorem dv_pick {g : Ev → Res} {e : Dr → Ev} {fs : List (Ev → Res)} {ds : List PyData} {P : M → Prop} (h : ∀ D, Dr.Ok D → YQs fs (e D) (ds.map fun d => .own (.fz d))) (ht : DV g e (IsI fun i => 0 ≤ i ∧ i < ds.length)) (hp : ∀ d ∈ ds, P (.fz d)) : DV (dFr (dIx (dLst fs) g)) e fun x => ∃ m, x = .own m ∧ P m := by
  refine (dv_fr (P := fun x => ∃ m, x = .own m ∧ P m) (dv_F (dvs_cons (P := (· = .lst (ds.map .fz))) ((dv_q fun D ok => yqs_lst (h D ok)).imp fun x hx => ⟨_, hx, rfl⟩) (dvs_cons ht dvs_nil)) fun ms z => ?_))
  obtain ⟨m1, r1, e1, e2, m2, r2, e3, ⟨j, e4, h1, h2⟩, e5⟩ := z
  subst e1 e2 e3 e4 e5
  obtain ⟨x, hx, hj⟩ := atI_of (xs := ds.map M.fz) h1 (by rw [List.length_map]; exact h2)
  obtain ⟨d, hd, rfl⟩ := List.mem_map.mp hx
  refine ⟨.own (.fz d), ?_, _, d, rfl, rfl, _, rfl, hp d hd⟩
  show (atI (ds.map M.fz) j).map _ = _
  rw [hj]; rfl
section
variable {e : Dr → Ev} {env : Ev} {f t src : Ev → Res} {I : Ev → Prop} {s i : Nat} {D : Dr} {a b rest : Ev → Out} {Q : M → Prop}
theorem no_set {P : M → Prop} (ok : Dr.Ok D) (h : DV f e fun x => ∃ m, x = .own m ∧ P m) (hi : ∀ D, i < (e D).length) (k : ∀ m D2, Dr.Ok D2 → P m → NO rest ((e D2).set i (some m)) I) : NO (dSeq (dSet i f) rest) (e D) I := by
  obtain ⟨x, D2, q, ok2, ⟨m, rfl, p⟩, h1⟩ := h D ok
  have h2 : dSet i f (e D) = .nx ((e D2).set i (some m)) := by
    unfold dSet; rw [h1]; simp only [put1, if_pos (hi D2)]
  have h3 := k m D2 ok2 p
  unfold NO at h3 ⊢
  rw [out_seq h2]
  exact h3
theorem no_if (ht : YQ t env (.own (.fz (.bool false)))) (k : NO rest env I) : NO (dSeq (dIfS t a dNx) rest) env I := by
  unfold NO at k ⊢
  rw [out_seq (show dIfS t a dNx env = .nx env from (out_ifF ht rfl).trans rfl)]
  exact k
theorem no_last (ht : YQ t env (.own (.fz (.bool false)))) (h : I env) : NO (dIfS t a dNx) env I := ⟨env, (out_ifF ht rfl).trans rfl, h⟩
theorem ro_for {p : Tg} {ds : List PyData} (I : Ev → Prop) (hsrc : YQ src env (.own (.fz (.list ds)))) (hs : ∀ d ∈ ds, ∀ env, I env → ∃ e1, p d env = some e1 ∧ NO b e1 I) (h : I env) (k : ∀ env, I env → RO s rest env Q) : RO s (dSeq (dFor p src b) rest) env Q := by
  obtain ⟨e2, h1, h2⟩ := runF_inv (p := p) (b := b) I (ds := ds) (env := env) (fun d hd env hi => by
    obtain ⟨e1, h1, e2, h2, h3⟩ := hs d hd env hi
    exact ⟨e1, e2, h1, .inl h2, h3⟩) h
  have := k e2 h2
  unfold RO at this ⊢
  rw [out_seq ((out_for hsrc).trans h1)]
  exact this
end
/-! ### more steps -/
section
variable {f g t : Ev → Res} {a b rest : Ev → Out} {env e2 : Ev} {i j s : Nat} {m n : M} {d : PyData}
theorem out_par (h : YQs [f, g] env [.own m, .own n]) (hi : i < env.length) (hj : j < env.length) : dPar i j f g env = .nx ((env.set i (some m)).set j (some n)) := by
  obtain ⟨q, e, _⟩ := h
  unfold dPar
  rw [e]
  simp only [if_pos (And.intro hi hj)]
theorem runW_T {k : Nat} (h : YQ t env (.own (.fz (.bool true)))) (hb : b env = .nx e2) : runW t b (k + 1) env = runW t b k e2 := by
  obtain ⟨q, e, _⟩ := h
  rw [runW]
  simp only [e, hb]
theorem runW_F {k : Nat} (h : YQ t env (.own (.fz (.bool false)))) : runW t b (k + 1) env = .nx env := by
  obtain ⟨q, e, _⟩ := h
  rw [runW]
  simp only [e]
/-- an if that does not hold -/
theorem oskip (ht : YQ t env (.own (.fz (.bool false)))) : outR (dSeq (dIfS t a dNx) rest env) = outR (rest env) := by
  rw [out_seq (show dIfS t a dNx env = .nx env from (out_ifF ht rfl).trans rfl)]
theorem out_skip (ht : YQ t env (.own (.fz (.bool false)))) : dSeq (dIfS t a dNx) rest env = rest env := out_seq (show dIfS t a dNx env = .nx env from (out_ifF ht rfl).trans rfl)
theorem dret_of (h : YQ f env (.own m)) : dRet f env = .ret m env := by
  obtain ⟨q, e, _⟩ := h
  unfold dRet; rw [e]
/-- an if that holds and returns -/
theorem otake (ht : YQ t env (.own (.fz (.bool true)))) (h : YQ f env (.own m)) : outR (dSeq (dIfS t (dRet f) dNx) rest env) = .ret m := by
  obtain ⟨q, e, _⟩ := h
  have : dIfS t (dRet f) dNx env = .ret m env := (out_ifT ht rfl).trans (by unfold dRet; rw [e])
  rw [out_seq_ret this]
  rfl
theorem out_augP {o : Int → Int → Option Int} {ms : List M} {k x y z : Int} (hs : env[s]? = some (some (.lst ms))) (hi : YQ f env (.own (.fz (.int k)))) (hg : YQ g env (.own (.fz (.int y)))) (hj : ixN ms.length k = some j) (hm : ms[j]? = some (.fz (.int x))) (ho : o x y = some z) :
    dAugP s o f g env = .nx (env.set s (some (.lst (ms.set j (.fz (.int z)))))) := by
  obtain ⟨q, e, _⟩ := hi
  obtain ⟨q2, e2, _⟩ := hg
  have ha : atI ms k = some (.fz (.int x)) := by unfold atI; rw [hj]; exact hm
  unfold dAugP
  simp only [held1, hs, if_true, e, intE, ha, e2, ho, wrAt, M.wr, setD, hj, Option.map_some]
theorem out_app {ms : List M} (hs : env[s]? = some (some (.lst ms))) (h : YQ f env (.own (.fz d))) (hl : ms.length < SZ) : dEx (dApp s f) env = .nx (env.set s (some (.lst (ms ++ [.fz d])))) := by
  obtain ⟨q, e, _⟩ := yq_fr h (m := .fz d) rfl
  unfold dEx dApp
  simp only [isLst, hs, if_true, e, wrAt, M.wr, appD, if_pos hl, Option.map_some]
theorem oret_tk {ds : List PyData} (hs : env[s]? = some (some (.lst (ds.map .fz)))) : outR (dRet (dTk s) env) = .ret (.fz (.list ds)) := by
  have : dTk s env = .ok (.own (.fz (.list ds))) (env.set s (some (.fz (.list ds)))) .q := by
    unfold dTk
    rw [hs]
    simp only [frz_lst]
  unfold dRet
  rw [this]
  rfl
theorem yq_sumA {x : Val} {ns : List Int} (h : YQ f env x) (hx : valD x = some (.list (ns.map .int)) ∨ valD x = some (.tuple (ns.map .int))) : YQ (dG (kPl oSumA) [f]) env (.own (.fz (.int ns.sum))) := yq_G (b := false) (ys_cons h ys_nil) (by
  rcases hx with hx | hx
  · have e : valDs [x] = some [.list (ns.map .int)] := by simp only [valDs, hx, Option.bind_some, Option.map_some]
    simp only [kPl, e, Option.bind_some, oSumA, intsD_map, Option.map_some]
  · have e : valDs [x] = some [.tuple (ns.map .int)] := by simp only [valDs, hx, Option.bind_some, Option.map_some]
    simp only [kPl, e, Option.bind_some, oSumA, intsD_map, Option.map_some])
theorem count_cast (l : List Nat) (i : Nat) : (l.map fun x : Nat => (x : Int)).count (i : Int) = l.count i := by
  induction l with
  | nil => rfl
  | cons a l ih =>
    rw [List.map_cons, List.count_cons, List.count_cons, ih]
    congr 1
    by_cases h : a = i
    · simp [h]
    · have : ((a : Int) == (i : Int)) = false := by simp; omega
      rw [this]
      simp [h]
theorem yq_count {x : Val} {l : List Nat} {k : Nat} (h : YQ f env x) (hx : lv x = some ((l.map fun x : Nat => (x : Int)).map .int)) (hv : lsV x = true) (hg : YQ g env (.own (.fz (.int k)))) : YQ (dMt kLCount f g) env (.own (.fz (.int (l.count k : Nat)))) := by
  obtain ⟨q, e, n⟩ := yq_G (k := kLCount) (b := false) (ys_cons h (ys_cons hg ys_nil)) (y := .own (.fz (.int (l.count k : Nat)))) (by
    simp only [kLCount, hx, Option.bind_some, intsD_map, valD, frz, count_cast])
  refine ⟨q, ?_, n⟩
  obtain ⟨q0, e0, _⟩ := h
  unfold dMt
  rw [if_pos (by rw [e0]; exact hv), e]
end
section
variable {e : Dr → Ev} {f g t : Ev → Res} {fs gs : List (Ev → Res)} {P P' : Val → Prop} {Q : M → Prop} {s i : Nat} {D : Dr} {a b rest : Ev → Out}
/-- .. with drawn arguments beside it -/
theorem dv_ioE {n : Nat} {den : Ev → Out} {R : List M → Prop} {as : List Arg} (has : as = .io s :: gs.map .v) (hs : ∀ D, (e D)[s]? = some (some D.m)) (hset : ∀ D D2, (e D).set s (some D2.m) = e D2) (h : DVs gs e R)
    (hc : ∀ ms, R ms → ∀ D, Dr.Ok D → RO 0 den (startE n (D.m :: ms)) Q) : DV (dCallI n den as) e fun x => ∃ m, x = .own m ∧ Q m := fun D ok => by
  subst has
  obtain ⟨ms', D2, q, ok2, hR, e1⟩ := h D ok
  obtain ⟨m, D3, e3, ok3, q3, r3, s3⟩ := hc ms' hR D2 ok2
  refine ⟨_, D3, .l, ok3, ⟨m, rfl, q3⟩, ?_⟩
  have hlen : s < (e D2).length := by
    obtain ⟨q, _⟩ := List.getElem?_eq_some_iff.mp (hs D2)
    exact q
  have ev : evs (vparts (.io s :: gs.map .v)) (e D) = .ok (ms'.map .own) (e D2) q := by
    show evs (vparts (gs.map .v)) (e D) = _
    rw [vparts_v]; exact e1
  have hio : ioOf (.io s :: gs.map Arg.v) = [s] := by
    show s :: ioOf (gs.map Arg.v) = [s]
    rw [ioOf_v]
  unfold dCallI
  have hh : heldAll (e D) (.io s :: gs.map .v) = true := by
    simp only [heldAll, hio, List.all_cons, List.all_nil, Bool.and_true, held1, hs D]
  rw [if_pos hh]
  unfold dCallIo
  rw [ev]
  have st : startE n (mergeM (.io s :: gs.map .v) ms' D2.m) = startE n (D2.m :: ms') := by
    show startE n (D2.m :: mergeM (gs.map .v) ms' D2.m) = _
    rw [merge_v (by have := evs_len e1; rw [List.length_map] at this; exact this)]
  simp only [owns_own, hio, hs D2, st, r3, backR, ioPos, s3, if_pos hlen, hset]
end
/-! ### sizes -/
theorem log_lt {a p : Nat} (h : a < 2 ^ p) (hp : 0 < p) : a.log2 < p := by
  by_cases hz : a = 0
  · rw [hz]; exact hp
  · exact (Nat.log2_lt hz).mpr h
theorem lt_mul2 {a b p q : Nat} (ha : a < 2 ^ p) (hb : b < 2 ^ q) : a * b < 2 ^ (p + q) := by
  rw [Nat.pow_add]
  exact Nat.mul_lt_mul'' ha hb
theorem mulOkN {a b : Nat} (ha : a < 2 ^ 400) (hb : b < 2 ^ 400) : mulOk (a : Int) (b : Int) = true := by
  unfold mulOk
  apply decide_eq_true
  rw [Int.natAbs_natCast, Int.natAbs_natCast]
  have := log_lt ha (by decide)
  have := log_lt hb (by decide)
  omega
section
variable {f g : Ev → Res} {env : Ev} {a b : Nat}
theorem yq_mulN (h : YQ f env (.own (.fz (.int a)))) (h2 : YQ g env (.own (.fz (.int b)))) (ha : a < 2 ^ 400) (hb : b < 2 ^ 400) : YQ (dG kMul [f, g]) env (.own (.fz (.int ((a * b : Nat) : Int)))) := by
  have := yq_mul h h2 (mulOkN ha hb)
  rwa [← Int.natCast_mul] at this
theorem yq_addN (h : YQ f env (.own (.fz (.int a)))) (h2 : YQ g env (.own (.fz (.int b)))) : YQ (dG kAdd [f, g]) env (.own (.fz (.int ((a + b : Nat) : Int)))) := by
  have := yq_add h h2
  rwa [← Int.natCast_add] at this
theorem yq_divN (h : YQ f env (.own (.fz (.int a)))) (h2 : YQ g env (.own (.fz (.int b)))) (h0 : 0 < b) (hb : b < 2 ^ 400) : YQ (dG (kPl oFdiv) [f, g]) env (.own (.fz (.int ((a / b : Nat) : Int)))) := by
  have := yq_div h h2 (by omega) (by rw [Int.natAbs_natCast]; have := log_lt hb (by decide); omega)
  rwa [← Int.natCast_ediv] at this
theorem yq_modN (h : YQ f env (.own (.fz (.int a)))) (h2 : YQ g env (.own (.fz (.int b)))) (h0 : 0 < b) : YQ (dG (kPl oMod) [f, g]) env (.own (.fz (.int ((a % b : Nat) : Int)))) := by
  have := yq_mod h h2 (by omega)
  rwa [← Int.natCast_emod] at this
theorem yq_litN {n : Nat} : YQ (dLit (.int n)) env (.own (.fz (.int (n : Nat)))) := yq_lit
theorem yq_absN (h : YQ f env (.own (.fz (.int a)))) : YQ (dG (kPl oAbs) [f]) env (.own (.fz (.int a))) := by
  have := yq_abs h
  rwa [Int.natAbs_natCast] at this
theorem yq_eqN {c : Bool} (h : YQ f env (.own (.fz (.int a)))) (h2 : YQ g env (.own (.fz (.int b)))) (hc : c = decide (a = b)) : YQ (dG (kPl oEq) [f, g]) env (.own (.fz (.bool c))) := by
  have := yq_eqi h h2
  rw [hc]
  rwa [decide_eq_decide.mpr (show ((a : Int) = (b : Int)) ↔ a = b by omega)] at this
theorem yq_neN {c : Bool} (h : YQ f env (.own (.fz (.int a)))) (h2 : YQ g env (.own (.fz (.int b)))) (hc : c = decide (a ≠ b)) : YQ (dG (kPl oNe) [f, g]) env (.own (.fz (.bool c))) := by
  have := yq_nei h h2
  rw [hc]
  rwa [decide_eq_decide.mpr (show ((a : Int) ≠ (b : Int)) ↔ a ≠ b by omega)] at this
theorem yq_gtN {c : Bool} (h : YQ f env (.own (.fz (.int a)))) (h2 : YQ g env (.own (.fz (.int b)))) (hc : c = decide (b < a)) : YQ (dG (kPl oGt) [f, g]) env (.own (.fz (.bool c))) := by
  have := yq_gt h h2
  rw [hc]
  rwa [decide_eq_decide.mpr (show ((b : Int) < (a : Int)) ↔ b < a by omega)] at this
theorem yq_ltN {c : Bool} (h : YQ f env (.own (.fz (.int a)))) (h2 : YQ g env (.own (.fz (.int b)))) (hc : c = decide (a < b)) : YQ (dG (kPl oLt) [f, g]) env (.own (.fz (.bool c))) := by
  have := yq_lt h h2
  rw [hc]
  rwa [decide_eq_decide.mpr (show ((a : Int) < (b : Int)) ↔ a < b by omega)] at this
end
/-- a row of Nats as data -/
def natsD (l : List Nat) : List PyData := l.map fun x => .int (x : Nat)
theorem natsD_len (l : List Nat) : (natsD l).length = l.length := by simp [natsD]
theorem natsD_ints (l : List Nat) : natsD l = (l.map fun x : Nat => (x : Int)).map .int := by simp [natsD]
theorem ixN_of {n i : Nat} (h : i < n) : ixN n (i : Int) = some i := by
  unfold ixN
  rw [if_pos (by omega), if_pos (by omega)]
  simp
theorem atI_nats {l : List Nat} {i : Nat} (h : i < l.length) : atI (natsD l) (i : Int) = some (.int (l.getD i 0 : Nat)) := by
  unfold atI
  rw [natsD_len, ixN_of h]
  simp [natsD, h]
theorem ix_tupN {l : List Nat} {i : Nat} (h : i < l.length) : ixV (.own (.fz (.tuple (natsD l)))) (i : Int) = some (.own (.fz (.int (l.getD i 0 : Nat)))) := by
  simp only [ixV, atI_nats h, Option.map_some]
theorem ix_lstN {l : List Nat} {i : Nat} (h : i < l.length) : ixV (.own (.fz (.list (natsD l)))) (i : Int) = some (.own (.fz (.int (l.getD i 0 : Nat)))) := by
  simp only [ixV, atI_nats h, Option.map_some]
theorem ix_vwN {l : List Nat} {i : Nat} (h : i < l.length) : ixV (.vw (.lst ((natsD l).map .fz))) (i : Int) = some (.own (.fz (.int (l.getD i 0 : Nat)))) := by
  simp only [ixV, atI, List.length_map, natsD_len, ixN_of h, Option.bind_some]
  simp [natsD, h, mkVw]
theorem nats_set {l : List Nat} {i x : Nat} : ((natsD l).map M.fz).set i (.fz (.int (x : Nat))) = (natsD (l.set i x)).map .fz := by
  simp [natsD, List.map_set]
theorem nats_snoc {l : List Nat} {x : Nat} : (natsD l).map M.fz ++ [.fz (.int (x : Nat))] = (natsD (l ++ [x])).map .fz := by
  simp [natsD]
theorem nats_get {l : List Nat} {i : Nat} (h : i < l.length) : ((natsD l).map M.fz)[i]? = some (.fz (.int (l.getD i 0 : Nat))) := by simp [natsD, h]
theorem kMulL_eq (x : Val) (k : Int) : kMulL [x, .own (.fz (.int k))] = (lv x).bind fun a => if decide (-(2 ^ 63) ≤ k) && decide (k < 2 ^ 63) && decide (a.length * k.toNat ≤ SZ) then some (.own (.lst ((List.replicate k.toNat a).flatten.map .fz)), true) else none := rfl
theorem if_posb {α : Type} {c : Bool} (hc : c = true) (a b : α) : (if c then a else b) = a := by rw [hc]; rfl
theorem kmulL_of {x : Val} {ds : List PyData} {n : Nat} (hx : lv x = some ds) (hn : n ≤ 1000) (hd : ds.length ≤ 1000) : kMulL [x, .own (.fz (.int n))] = some (.own (.lst ((List.replicate n ds).flatten.map .fz)), true) := by
  have hc : (decide (-(2 ^ 63) ≤ (n : Int)) && decide ((n : Int) < 2 ^ 63) && decide (ds.length * (n : Int).toNat ≤ SZ)) = true := by
    have h1 : ds.length * n ≤ 1000 * 1000 := Nat.mul_le_mul hd hn
    have h2 : (1000 * 1000 : Nat) ≤ SZ := by decide
    simp only [Bool.and_eq_true, decide_eq_true_eq, Int.toNat_natCast]
    exact ⟨⟨by omega, by omega⟩, Nat.le_trans h1 h2⟩
  rw [kMulL_eq, hx, Option.bind_some, if_posb hc, Int.toNat_natCast]
theorem zeros_flat (n : Nat) : (List.replicate n [PyData.int 0]).flatten = natsD (List.replicate n 0) := by
  induction n with
  | zero => rfl
  | succ n ih => rw [List.replicate_succ, List.flatten_cons, ih, List.replicate_succ]; rfl
theorem kmul_zeros {n : Nat} (h : n ≤ 1000) : kMul [.own (.lst [.fz (.int 0)]), .own (.fz (.int n))] = some (.own (.lst ((natsD (List.replicate n 0)).map .fz)), true) := by
  have k1 : kMulP [.own (.lst [.fz (.int 0)]), .own (.fz (.int n))] = none := rfl
  have k2 := kmulL_of (x := .own (.lst [.fz (.int 0)])) (ds := [.int 0]) rfl h (by decide)
  rw [zeros_flat] at k2
  unfold kMul
  rw [k1, k2]; rfl
theorem kRng2_eq (i j : Int) : kRng [.own (.fz (.int i)), .own (.fz (.int j))] = if -(2 ^ 62) ≤ i ∧ i < 2 ^ 62 ∧ -(2 ^ 62) ≤ j ∧ j < 2 ^ 62 ∧ j - i ≤ SZ then some (.own (.fz (.list (rngD i (j - i).toNat))), false) else none := rfl
theorem yq_rng2 {f g : Ev → Res} {env : Ev} {a b : Nat} (h : YQ f env (.own (.fz (.int a)))) (h2 : YQ g env (.own (.fz (.int b)))) (ha : a ≤ 1000) (hb : b ≤ 1000) : YQ (dG kRng [f, g]) env (.own (.fz (.list (rngD a (b - a))))) := yq_G (b := false) (y2 h h2) (by
  have h3 : ((1000 : Nat) : Int) ≤ SZ := by decide
  rw [kRng2_eq, if_pos ⟨by omega, by omega, by omega, by omega, by omega⟩, show ((b : Int) - (a : Int)).toNat = b - a by omega])
theorem lst_natsD (l : List Nat) : lv (.own (.fz (.list (natsD l)))) = some ((l.map fun x : Nat => (x : Int)).map .int) := by
  simp [lv, natsD]
theorem nats_nd (l : List Nat) : noDict (.tuple (natsD l)) = true := noDict_tup fun x hx => by
  obtain ⟨i, _, rfl⟩ := List.mem_map.mp hx
  rfl
theorem sh_nats {k : Nat} (l : List Nat) : Sh (k + 1) (.tuple (natsD l)) := sh_tup fun x hx => by
  obtain ⟨i, _, rfl⟩ := List.mem_map.mp hx
  exact sh_int
end Q

set_option Elab.async false
set_option linter.all false
set_option maxRecDepth 100000
set_option maxHeartbeats 4000000
/-! sorted of a list of ints, of pairs of ints. -/
namespace Q
open PySem PySem.Spec PyProof.Rows L2
/-! ### insertion sort -/
section
variable {α : Type} (le : α → α → Bool)
def insB (a : α) : List α → List α
  | [] => [a]
  | b :: l => if le a b = true then a :: b :: l else b :: insB a l
def srtB : List α → List α
  | [] => []
  | a :: l => insB le a (srtB l)
theorem insB_perm (a : α) : ∀ l : List α, (insB le a l).Perm (a :: l)
  | [] => List.Perm.refl _
  | b :: l => by
    unfold insB
    split
    · exact List.Perm.refl _
    · exact ((insB_perm a l).cons b).trans (List.Perm.swap a b l)
theorem srtB_perm : ∀ l : List α, (srtB le l).Perm l
  | [] => List.Perm.refl _
  | a :: l => (insB_perm le a _).trans ((srtB_perm l).cons a)
variable {le}
theorem insB_srt (tot : ∀ a b, le a b = true ∨ le b a = true) (tr : ∀ a b c, le a b = true → le b c = true → le a c = true) (a : α) : ∀ {l : List α}, l.Pairwise (fun x y => le x y = true) → (insB le a l).Pairwise fun x y => le x y = true
  | [], _ => List.pairwise_singleton _ _
  | b :: l, h => by
    obtain ⟨h1, h2⟩ := List.pairwise_cons.mp h
    unfold insB
    split
    · rename_i hab
      refine List.pairwise_cons.mpr ⟨fun x hx => ?_, h⟩
      rcases List.mem_cons.mp hx with e | hx
      · rw [e]; exact hab
      · exact tr _ _ _ hab (h1 x hx)
    · rename_i hab
      have hba := (tot a b).resolve_left hab
      refine List.pairwise_cons.mpr ⟨fun x hx => ?_, insB_srt tot tr a h2⟩
      rcases List.mem_cons.mp ((insB_perm le a l).mem_iff.mp hx) with e | hx
      · rw [e]; exact hba
      · exact h1 x hx
theorem srtB_srt (tot : ∀ a b, le a b = true ∨ le b a = true) (tr : ∀ a b c, le a b = true → le b c = true → le a c = true) : ∀ l : List α, (srtB le l).Pairwise fun x y => le x y = true
  | [] => List.Pairwise.nil
  | a :: l => insB_srt tot tr a (srtB_srt tot tr l)
theorem srt_uniq (anti : ∀ a b, le a b = true → le b a = true → a = b) : ∀ {l m : List α}, l.Perm m → l.Pairwise (fun x y => le x y = true) → m.Pairwise (fun x y => le x y = true) → l = m
  | [], m, p, _, _ => p.nil_eq
  | a :: l, [], p, _, _ => absurd p.length_eq (by simp)
  | a :: l, b :: m, p, h1, h2 => by
    obtain ⟨a1, a2⟩ := List.pairwise_cons.mp h1
    obtain ⟨b1, b2⟩ := List.pairwise_cons.mp h2
    have e : a = b := by
      rcases List.mem_cons.mp (p.mem_iff.mp List.mem_cons_self : a ∈ b :: m) with e | h
      · exact e
      rcases List.mem_cons.mp (p.mem_iff.mpr List.mem_cons_self : b ∈ a :: l) with e | h'
      · exact e.symm
      exact anti a b (a1 b h') (b1 a h)
    subst e
    rw [srt_uniq anti (List.Perm.cons_inv p) a2 b2]
end
def leI (a b : Int) : Bool := decide (a ≤ b)
abbrev sortI (l : List Int) : List Int := srtB leI l
theorem leI_tot (a b : Int) : leI a b = true ∨ leI b a = true := by
  simp only [leI, decide_eq_true_eq]; omega
theorem leI_tr (a b c : Int) (h1 : leI a b = true) (h2 : leI b c = true) : leI a c = true := by
  simp only [leI, decide_eq_true_eq] at *; omega
theorem leI_anti (a b : Int) (h1 : leI a b = true) (h2 : leI b a = true) : a = b := by
  simp only [leI, decide_eq_true_eq] at *; omega
def leP (p q : Int × Int) : Bool := decide (p.1 < q.1) || (decide (p.1 = q.1) && decide (p.2 ≤ q.2))
theorem leP_iff {p q : Int × Int} : leP p q = true ↔ p.1 < q.1 ∨ (p.1 = q.1 ∧ p.2 ≤ q.2) := by
  simp only [leP, Bool.or_eq_true, Bool.and_eq_true, decide_eq_true_eq]
theorem leP_tot (a b : Int × Int) : leP a b = true ∨ leP b a = true := by
  rw [leP_iff, leP_iff]; omega
theorem leP_tr (a b c : Int × Int) (h1 : leP a b = true) (h2 : leP b c = true) : leP a c = true := by
  rw [leP_iff] at *; omega
theorem leP_anti (a b : Int × Int) (h1 : leP a b = true) (h2 : leP b a = true) : a = b := by
  rw [leP_iff] at *
  exact Prod.ext (by omega) (by omega)
abbrev sortP (l : List (Int × Int)) : List (Int × Int) := srtB leP l
/-! ### pairs of ints as data -/
def pairD (p : Int × Int) : PyData := .tuple [.int p.1, .int p.2]
def toPair : PyData → Option (Int × Int)
  | .tuple [.int i, .int j] => some (i, j)
  | _ => none
def pairsD : List PyData → Option (List (Int × Int))
  | [] => some []
  | d :: r => (toPair d).bind fun p => (pairsD r).map fun l => p :: l
theorem toPair_some {d : PyData} {p : Int × Int} (h : toPair d = some p) : d = pairD p := by
  unfold toPair at h
  split at h
  · cases h; rfl
  · cases h
theorem pairsD_some : ∀ {ds : List PyData} {ps : List (Int × Int)}, pairsD ds = some ps → ds = ps.map pairD
  | [], _, h => by cases h; rfl
  | d :: r, _, h => by
    unfold pairsD at h
    obtain ⟨p, h1, h2⟩ := Option.bind_eq_some_iff.mp h
    obtain ⟨l, h3, rfl⟩ := Option.map_eq_some_iff.mp h2
    rw [toPair_some h1, pairsD_some h3]; rfl
theorem pairsD_map (ps : List (Int × Int)) : pairsD (ps.map pairD) = some ps := by
  induction ps with
  | nil => rfl
  | cons p ps ih => simp [pairsD, toPair, pairD, ih] <;> rfl
section
variable {X : Cx}
/-- sorted(xs), pairs of ints: the same pairs in order -/
theorem cr_sortPO : CallR X (.builtin "sorted") (fun vs H Q => ∃ (a : Addr) (xs : List V) (g : V → Int × Int), vs = [V.ref a] ∧ SqL X.K H a xs ∧ (∀ x ∈ xs, ∃ t, x = V.ref t ∧ SqT X.K H t [V.int (g x).1, V.int (g x).2]) ∧
    ∀ (ys : List V) (p : Addr), ys.Perm xs → ys.Pairwise (fun x y => leP (g x) (g y) = true) → H p = none → Q (.ref p) (upd H p (.lst ys))) := by
  intro pns st ϱ HH us vs QQ Inn rr ⟨a, xs, g, eu, hs, hx, q⟩
  subst eu
  obtain ⟨its, rv, hl, hz⟩ := Inn.list hs
  rw [Vals.ref1 rr]
  obtain ⟨e1, e2⟩ := refs_back rv fun x m => by
    obtain ⟨t, e, _⟩ := hx x m
    exact ⟨t, e⟩
  refine SrtO.sorted_pairsO (k := fun u => g (backV u)) hl.isList (by rw [← rv.length]; exact hz) (fun v hv => ?_) fun h' d out hso hst kk hd hn => ?_
  · obtain ⟨t, rfl⟩ := e2 v hv
    have hm : V.ref t ∈ xs := by rw [e1]; exact List.mem_map.mpr ⟨_, hv, rfl⟩
    obtain ⟨t', e, ht⟩ := hx _ hm
    cases e
    obtain ⟨its2, r2, ⟨o, ho, hc, n, hd⟩, _⟩ := Inn.tuple ht
    obtain ⟨u1, u2, rfl, ri, rj⟩ := vals2 r2
    obtain ⟨t1, rfl⟩ := ri
    obtain ⟨t2, rfl⟩ := rj
    exact ⟨t, o, t1, t2, n, rfl, ho, hc, hd⟩
  · have hp := hst.perm
    have h3 : ∀ u ∈ out, ∃ a, u = Value.ref a := fun u hu => e2 u (hp.mem_iff.mp hu)
    obtain ⟨n, hn⟩ := hn
    refine ⟨.ref d, upd HH d (.lst (out.map backV)), Inn.laid (t' := st.toks) kk hd ⟨?_, out, n, vals_back h3, hn⟩, rfl, q _ d ?_ ?_ (Inn.hok.fresh hd)⟩
    · rw [List.length_map, hp.length_eq, ← rv.length]; exact hz
    · rw [e1]; exact hp.map backV
    · refine List.pairwise_map.mpr (hso.imp fun {x y} h => ?_)
      have := SrtO.lexB_no.mp h
      rw [leP_iff]
      omega
end
/-! ### by what the values say -/
def kSortI : List Val → Option (Val × Bool)
  | [x] => (lv x).bind fun ds => (intsD ds).map fun ns => (.own (.lst ((sortI ns).map fun n => .fz (.int n))), true)
  | _ => none
def kSortP : List Val → Option (Val × Bool)
  | [x] => (lv x).bind fun ds => (pairsD ds).map fun ps => (.own (.lst ((sortP ps).map fun p => .fz (pairD p))), true)
  | _ => none
def kSort (xs : List Val) : Option (Val × Bool) := (kSortI xs).orElse fun _ => kSortP xs
theorem rms_ints {K : PySem.W.Frag} {H : Hp} {G : Addr → Prop} : ∀ ns : List Int, RMs K H G (ns.map V.int) (ns.map fun n => .fz (.int n)) []
  | [] => .nil
  | n :: ns => .cons (F := []) (.fz (.int n)) (rms_ints ns)
theorem callv_sortI {X : Cx} : CallV X (.builtin "sorted") kSortI := by
  refine ⟨_, cr_sortedI, fun Z O env env' σ H H' vs xs z b q Q pl he kk => ?_⟩
  unfold kSortI at he
  split at he
  case h_2 => cases he
  rename_i x
  obtain ⟨ds, ea, he⟩ := Option.bind_eq_some_iff.mp he
  obtain ⟨ns, eb, e2⟩ := Option.map_eq_some_iff.mp he
  cases e2
  have hl := pl.len
  obtain ⟨O', F, pa⟩ := id pl.ex
  match vs, hl, pl, pa with
  | [v], _, pl, pa =>
    obtain ⟨a, ws, rfl, h2, h3⟩ := pa.2.1.lv ea
    refine ⟨a, ns, rfl, by rw [← h3.intsD eb]; exact .inl h2, fun ns' p hp hs hn => ?_⟩
    have e : ns' = sortI ns := srt_uniq leI_anti (hp.trans (srtB_perm leI ns).symm) (hs.imp fun h => decide_eq_true h) (srtB_srt leI_tot leI_tr ns)
    rw [e]
    exact kk _ _ (pa.newL (rms_ints _) (List.nil_sublist _) hn)
theorem rf_pair {K : PySem.W.Frag} {H : Hp} {G : Addr → Prop} {v : V} {p : Int × Int} (r : RF K H G v (pairD p)) : ∃ t, v = .ref t ∧ SqN K H t [V.int p.1, V.int p.2] := by
  cases r with
  | tup h rs =>
    cases rs with
    | cons r1 rs =>
      cases rs with
      | cons r2 rs =>
        cases rs
        cases r1.intI
        cases r2.intI
        exact ⟨_, rfl, h⟩
open Classical in
/-- the pair that stands at a value -/
noncomputable def pairAt (K : PySem.W.Frag) (H : Hp) (v : V) : Int × Int := if h : ∃ p : Int × Int, ∃ t, v = .ref t ∧ SqT K H t [V.int p.1, V.int p.2] then h.choose else (0, 0)
theorem pairAt_of {X : Cx} {pins : List (Addr × Obj)} {σ : L2.St} {H : Hp} {s : Shared} {t : Addr} {p : Int × Int} (I : Inv X pins σ H s) (h : SqT X.K H t [V.int p.1, V.int p.2]) : pairAt X.K H (.ref t) = p := by
  have ex : ∃ p : Int × Int, ∃ t', V.ref t = .ref t' ∧ SqT X.K H t' [V.int p.1, V.int p.2] := ⟨p, t, rfl, h⟩
  unfold pairAt
  rw [dif_pos ex]
  obtain ⟨t', e, h2⟩ := ex.choose_spec
  cases e
  have := I.tuple_inj h h2
  injection this with e1 e2
  injection e2 with e2 _
  injection e1 with e1
  injection e2 with e2
  exact Prod.ext e1.symm e2.symm
theorem pairs_map {X : Cx} {pins : List (Addr × Obj)} {σ : L2.St} {H : Hp} {s : Shared} (I : Inv X pins σ H s) : ∀ {xs : List V} {ps : List (Int × Int)}, RFs X.K H Top xs (ps.map pairD) → xs.map (pairAt X.K H) = ps ∧ ∀ x ∈ xs, ∃ t, x = V.ref t ∧ SqN X.K H t [V.int (pairAt X.K H x).1, V.int (pairAt X.K H x).2]
  | [], [], _ => ⟨rfl, fun _ h => by cases h⟩
  | x :: xs, p :: ps, .cons r rs => by
    obtain ⟨t, rfl, ht⟩ := rf_pair r
    have e := pairAt_of I ht.t
    obtain ⟨h1, h2⟩ := pairs_map I rs
    refine ⟨by rw [List.map_cons, e, h1], fun y hy => ?_⟩
    rcases List.mem_cons.mp hy with rfl | hy
    · exact ⟨t, rfl, by rw [e]; exact ht⟩
    · exact h2 y hy
theorem rfs_pairs {K : PySem.W.Frag} {H : Hp} {G : Addr → Prop} {g : V → Int × Int} : ∀ {ys : List V}, (∀ y ∈ ys, ∃ t, y = V.ref t ∧ SqN K H t [V.int (g y).1, V.int (g y).2]) → RFs K H G ys ((ys.map g).map pairD)
  | [], _ => .nil
  | y :: ys, h => by
    obtain ⟨t, e, ht⟩ := h y List.mem_cons_self
    refine .cons ?_ (rfs_pairs fun z hz => h z (List.mem_cons_of_mem _ hz))
    show RF K H G y (.tuple [.int (g y).1, .int (g y).2])
    generalize g y = p at ht ⊢
    subst e
    exact .tup ht (.cons (.int _) (.cons (.int _) .nil))
theorem cr_sortD {X : Cx} : CallR X (.builtin "sorted") (fun vs H Q => ∃ (a : Addr) (xs : List V) (ps : List (Int × Int)), vs = [V.ref a] ∧ SqL X.K H a xs ∧ RFs X.K H Top xs (ps.map pairD) ∧
    ∀ (ys : List V) (d : Addr), (∀ G, RFs X.K H G ys ((sortP ps).map pairD)) → H d = none → Q (.ref d) (upd H d (.lst ys))) := by
  intro pns st ϱ HH us vs QQ Inn rr ⟨a, xs, ps, eu, hs, hr, q⟩
  obtain ⟨h1, h2⟩ := pairs_map Inn hr
  refine cr_sortPO pns st ϱ HH us vs QQ Inn rr ⟨a, xs, pairAt X.K HH, eu, hs, fun x hx => (h2 x hx).imp fun t z => ⟨z.1, z.2.t⟩, fun ys d hp hso hn => q ys d (fun G => ?_) hn⟩
  have e : ys.map (pairAt X.K HH) = sortP ps := srt_uniq leP_anti ((by rw [← h1]; exact hp.map _ : (ys.map (pairAt X.K HH)).Perm ps).trans (srtB_perm leP ps).symm) (List.pairwise_map.mpr hso) (srtB_srt leP_tot leP_tr ps)
  rw [← e]
  exact rfs_pairs fun y hy => h2 y (hp.mem_iff.mp hy)
theorem rfs_rms {K : PySem.W.Frag} {H : Hp} {G : Addr → Prop} {f : α → PyData} : ∀ {ys : List V} {ps : List α}, RFs K H G ys (ps.map f) → RMs K H G ys (ps.map fun p => .fz (f p)) []
  | [], [], _ => .nil
  | y :: ys, p :: ps, .cons r rs => .cons (F := []) (.fz r) (rfs_rms rs)
theorem callv_sortP {X : Cx} : CallV X (.builtin "sorted") kSortP := by
  refine ⟨_, cr_sortD, fun Z O env env' σ H H' vs xs z b q Q pl he kk => ?_⟩
  unfold kSortP at he
  split at he
  case h_2 => cases he
  rename_i x
  obtain ⟨ds, ea, he⟩ := Option.bind_eq_some_iff.mp he
  obtain ⟨ps, eb, e2⟩ := Option.map_eq_some_iff.mp he
  cases e2
  have hl := pl.len
  obtain ⟨O', F, pa⟩ := id pl.ex
  match vs, hl, pl, pa with
  | [v], _, pl, pa =>
    obtain ⟨a, ws, rfl, h2, h3⟩ := pa.2.1.lv ea
    rw [pairsD_some eb] at h3
    exact ⟨a, ws, ps, rfl, .inl h2, h3.imp fun _ _ => trivial, fun ys d hy hn => kk _ _ (pa.newL (rfs_rms (hy _)) (List.nil_sublist _) hn)⟩
theorem callv_sort {X : Cx} : CallV X (.builtin "sorted") kSort := callv_sortI.or callv_sortP
section
variable {f : Ev → Res} {env : Ev} {x : Val}
theorem ksort_I {ns : List Int} (h : lv x = some (ns.map .int)) : kSort [x] = some (.own (.lst ((sortI ns).map fun n => .fz (.int n))), true) := by
  simp only [kSort, kSortI, h, Option.bind_some, intsD_map, Option.map_some]
  rfl
theorem ksort_P {p : Int × Int} {ps : List (Int × Int)} (h : lv x = some ((p :: ps).map pairD)) : kSort [x] = some (.own (.lst ((sortP (p :: ps)).map fun p => .fz (pairD p))), true) := by
  have e : intsD ((p :: ps).map pairD) = none := rfl
  simp only [kSort, kSortI, kSortP, h, Option.bind_some, pairsD_map, Option.map_some, e, Option.map_none]
  rfl
end
end Q

set_option Elab.async false
set_option linter.all false
set_option maxRecDepth 100000
set_option maxHeartbeats 4000000
/-! min, max, < <= > >= of data that are alike; for over a list that a name owns. -/
namespace Q
open PySem PySem.Spec PyProof.Rows L2
/-! ### order of data -/
def okD (a b : PyData) : Bool := PySem.W.alike a b && (SeqAt.shaped a && SeqAt.shaped b) && (match a with | .none => false | _ => true)
theorem okD_ne {a b : PyData} (h : okD a b = true) : PySem.W.alike a b = true ∧ SeqAt.shaped a = true ∧ SeqAt.shaped b = true ∧ a ≠ .none := by
  unfold okD at h
  rw [Bool.and_eq_true, Bool.and_eq_true, Bool.and_eq_true] at h
  exact ⟨h.1.1, h.1.2.1, h.1.2.2, fun z => by rw [z] at h; cases h.2⟩
theorem shaped_depth {a : PyData} (h : SeqAt.shaped a = true) : a.depth ≤ 64 := by
  unfold SeqAt.shaped at h
  rw [Bool.and_eq_true] at h
  exact of_decide_eq_true h.2
def oCmpD (r : PyData → PyData → Bool) : List PyData → Option PyData
  | [a, b] => if okD a b = true then some (.bool (r a b)) else none
  | _ => none
section
variable {X : Cx}
theorem opr_data {op : CmpOp} {r : PyData → PyData → Bool} (hu : X.A.units + 65 < cLine)
    (rule : ∀ {s : Shared} {a b : Value} {da db : PyData} {as bs : List Addr} {Q : Value → Shared → Prop}, PySem.Reads s.heap a da as → PySem.Reads s.heap b db bs → PySem.W.alike da db = true → da ≠ .none → X.A.units + min da.depth db.depth < cLine → Q (.bool (r da db)) s → wpAny (model X.prog X.w) X.A (compareOp op a b) Q X.xe s) :
    OpD X (compareOp op) (oCmpD r) := by
  refine ⟨fun x y H Q => ∃ d e, Dp X.K H x d ∧ Dp X.K H y e ∧ okD d e = true ∧ Q (.bl (r d e)) H, fun pns st ϱ HH x y v u QQ Inn rx ry ⟨d, e, h1, h2, ok, q⟩ => ?_, fun v w H Q ds d hd he k => ?_⟩
  · obtain ⟨as, r1⟩ := Dp.reads Inn d x v h1 rx
    obtain ⟨bs, r2⟩ := Dp.reads Inn e y u h2 ry
    obtain ⟨o1, o2, o3, o4⟩ := okD_ne ok
    have := shaped_depth o2
    exact rule r1 r2 o1 o4 (by omega) ⟨.bl _, HH, Inn, rfl, q⟩
  · unfold oCmpD at he
    split at he
    · split at he
      · rename_i a b ok
        cases he
        obtain ⟨r1, r2⟩ := hd.two
        exact ⟨a, b, r1.dp, r2.dp, ok, k _ fun G => .bl _⟩
      · cases he
    · cases he
theorem opd_leD (hu : X.A.units + 65 < cLine) : OpD X (compareOp .LtE) (oCmpD fun a b => !PySem.W.dataLt b a) := opr_data hu fun r1 r2 h hn hd q => PySem.W.le_data r1 r2 h hn hd q
theorem opd_ltD (hu : X.A.units + 65 < cLine) : OpD X (compareOp .Lt) (oCmpD fun a b => PySem.W.dataLt a b) := opr_data hu fun r1 r2 h hn hd q => PySem.W.lt_data r1 r2 h hn hd q
end
/-! ### min, max of a list of data -/
def alikes (ds : List PyData) : Bool := ds.all (fun x => ds.all fun y => PySem.W.alike x y) && ds.all fun x => match x with
  | .none => false
  | _ => true
theorem alikes_all {ds : List PyData} (h : alikes ds = true) : PySem.W.AlikeAll ds := by
  unfold alikes at h
  rw [Bool.and_eq_true, List.all_eq_true, List.all_eq_true] at h
  exact ⟨fun x hx y hy => List.all_eq_true.mp (h.1 x hx) y hy, fun x hx z => by have := h.2 x hx; rw [z] at this; cases this⟩
/-- the first of the least (the greatest), a datum without lists -/
def oBest (best : PyData → List PyData → PyData) : List PyData → Option PyData
  | [.list (d :: ds)] => if (alikes (d :: ds) && SeqAt.shaped (.list (d :: ds)) && noL (best d ds)) = true then some (best d ds) else none
  | _ => none
theorem depth_all_le {ds : List PyData} (h : SeqAt.shaped (.list ds) = true) : PyData.depthAll ds ≤ 63 := by
  have := shaped_depth h
  unfold PyData.depth at this
  omega
section
variable {X : Cx}
theorem vals_back {ws : List V} {its : List Value} (r : Vals ws its) {i : Nat} {u : Value} (h : its[i]? = some u) : ∃ w, ws[i]? = some w ∧ RelV w u := by
  induction r generalizing i with
  | nil => simp at h
  | cons r rs ih =>
    cases i with
    | zero => simp at h; subst h; exact ⟨_, rfl, r⟩
    | succ i => obtain ⟨w, h1, h2⟩ := ih (i := i) (by simpa using h); exact ⟨w, by simpa using h1, h2⟩
theorem rfs_at {K : PySem.W.Frag} {H : Hp} {G : Addr → Prop} {ws : List V} {ds : List PyData} {i : Nat} {w : V} (r : RFs K H G ws ds) (h : ws[i]? = some w) : ∃ d, ds[i]? = some d ∧ RF K H G w d := by
  have hi := (List.getElem?_eq_some_iff.mp h).1
  have hl := r.length
  obtain ⟨v, h1, h2⟩ := r.get (List.getElem?_eq_getElem (show i < ds.length by omega))
  rw [h] at h1; cases h1
  exact ⟨_, List.getElem?_eq_getElem _, h2⟩
theorem callv_best {nm : String} {best : PyData → List PyData → PyData} (hc : X.calm = true) (hu : X.A.units + 65 < cLine) (hmem : ∀ d ds, best d ds ∈ d :: ds)
    (rule : X.A.handled = none → ∀ {s : Shared} {l : Addr} {vs : Array Value} {x : PyData} {xs : List PyData} {as : List Addr} {Q : Value → Shared → Prop}, s.heap.IsList l vs → PySem.ReadsAll s.heap vs.toList (x :: xs) as → PySem.W.AlikeAll (x :: xs) → X.A.units + 1 + PyData.depthAll (x :: xs) < cLine →
      (∀ (i : Nat) v h' tk bs, vs[i]? = some v → PySem.Reads h' v (best x xs) bs → (∀ b o, s.heap.get? b = some o → h'.get? b = some o) → Q v { s with heap := h', toks := tk }) → wpAny (model X.prog X.w) X.A (call (.builtin nm) [.ref l]) Q X.xe s) :
    CallV X (.builtin nm) (kPl (oBest best)) := by
  refine callv_of (r := fun vs H Q => ∃ (a : Addr) (ws : List V) (d : PyData) (ds : List PyData), vs = [V.ref a] ∧ SqL X.K H a ws ∧ RFs X.K H Top ws (d :: ds) ∧ alikes (d :: ds) = true ∧ SeqAt.shaped (.list (d :: ds)) = true ∧ noL (best d ds) = true ∧ ∀ v, (∀ G, RF X.K H G v (best d ds)) → Q v H) (fun pns st ϱ HH us vs QQ Inn rr ⟨a, ws, d, ds, eu, hs, hr, ha, hsh, hn, q⟩ => ?_) fun vs H Q ds d hd he k => ?_
  · subst eu
    obtain ⟨its, rv, hl, _⟩ := Inn.list hs
    rw [Vals.ref1 rr]
    obtain ⟨as, h4⟩ := Dp.readsAll Inn (d :: ds) ws its hr.dp rv
    have hd := depth_all_le hsh
    refine rule (Inn.ok.hd hc) hl.isList (by simpa using h4) (alikes_all ha) (by omega) fun i v h' tk bs hv hrd kk => ?_
    obtain ⟨w, hw, rw_⟩ := vals_back rv (by simpa using hv)
    obtain ⟨d', hd', rd⟩ := rfs_at hr hw
    obtain ⟨bs', r2⟩ := Dp.reads Inn d' w v rd.dp rw_
    have cl : ∀ x ∈ d :: ds, x.canLay0 = true := fun x hx => by
      have h0 := SeqAt.canLay_of_shaped hsh
      have h1 : PyData.canLayAll0 (d :: ds) = true := h0
      have key : ∀ l : List PyData, PyData.canLayAll0 l = true → ∀ x ∈ l, x.canLay0 = true := by
        intro l
        induction l with
        | nil => intro _ x hx; cases hx
        | cons y l ih =>
          intro h x hx
          unfold PyData.canLayAll0 at h
          rw [Bool.and_eq_true] at h
          rcases List.mem_cons.mp hx with e | hx
          · rw [e]; exact h.1
          · exact ih h.2 x hx
      exact key _ h1 x hx
    have e1 := SeqAt.readOf_eq (cl _ (List.mem_of_getElem? hd')) (PySem.W.reads_keeps kk r2)
    have e2 := SeqAt.readOf_eq (cl _ (hmem d ds)) hrd
    rw [e1] at e2
    subst e2
    exact ⟨w, HH, Inn.kept kk, rw_, q w fun G => rd.noG hn⟩
  · unfold oBest at he
    split at he
    · rename_i d0 ds0
      split at he
      · rename_i h0
        cases he
        rw [Bool.and_eq_true, Bool.and_eq_true] at h0
        obtain ⟨v, rfl, r⟩ := hd.v1
        cases r with
        | lst h g rs => exact ⟨_, _, d0, ds0, rfl, .inl h, rs, h0.1.1, h0.1.2, h0.2, fun v h => k v h⟩
      · cases he
    · cases he
theorem minD_mem (d : PyData) (ds : List PyData) : PySem.W.minD d ds ∈ d :: ds := by
  unfold PySem.W.minD
  induction ds generalizing d with
  | nil => exact List.mem_cons_self
  | cons y ds ih =>
    rw [List.foldl_cons]
    have := ih (if PySem.W.dataLt y d then y else d)
    rcases List.mem_cons.mp this with e | h
    · rw [e]
      split
      · exact List.mem_cons_of_mem _ List.mem_cons_self
      · exact List.mem_cons_self
    · exact List.mem_cons_of_mem _ (List.mem_cons_of_mem _ h)
theorem callv_minD (hc : X.calm = true) (hu : X.A.units + 65 < cLine) : CallV X (.builtin "min") (kPl (oBest PySem.W.minD)) :=
  callv_best hc hu minD_mem fun hh {s l vs x xs as Q} hl hr ha hd h => PySem.W.min_list_data hh hl hr ha hd h
def kMinA (xs : List Val) : Option (Val × Bool) := (kPl oMin xs).orElse fun _ => kPl (oBest PySem.W.minD) xs
theorem callv_minA (hc : X.calm = true) (hu : X.A.units + 65 < cLine) : CallV X (.builtin "min") kMinA := (callv_min hc).or (callv_minD hc hu)
end
/-! ### for over a list that a name owns: the name is out of sight meanwhile -/
def isNon (e : Ev) (s : Nat) : Bool := match e[s]? with
  | some none => true
  | _ => false
def restO (s : Nat) (m : M) : Out → Out
  | .nx e => if isNon e s = true then .nx (e.set s (some m)) else .stuck
  | .ret m' e => .ret m' e
  | .exn c e => .exn c e
  | _ => .stuck
/-- the ints of an owned list -/
def lstInts : Option (Option M) → Option (List Int)
  | some (some (.lst ms)) => (leaves ms).bind intsD
  | _ => none
def dForO (p : Tg) (en : Bool) (s : Nat) (b : Ev → Out) : Ev → Out := fun env => match lstInts env[s]? with
  | some ns => restO s (.lst (ns.map fun n => .fz (.int n))) (runF p b (match en with
    | true => enD (ns.map .int)
    | false => ns.map .int) (env.set s none))
  | none => .stuck
theorem lstInts_some {x : Option (Option M)} {ns : List Int} (h : lstInts x = some ns) : x = some (some (.lst (ns.map fun n => .fz (.int n)))) := by
  unfold lstInts at h
  split at h
  · rename_i ms
    obtain ⟨ds, h1, h2⟩ := Option.bind_eq_some_iff.mp h
    have key : ∀ (ms : List M) (ds : List PyData) (ns : List Int), leaves ms = some ds → intsD ds = some ns → ms = ns.map fun n => .fz (.int n) := by
      intro ms
      induction ms with
      | nil => intro ds ns h1 h2; cases h1; cases h2; rfl
      | cons m ms ih =>
        intro ds ns h1 h2
        cases m with
        | fz d =>
          unfold leaves at h1
          obtain ⟨l, h3, rfl⟩ := Option.map_eq_some_iff.mp h1
          cases d with
          | int i =>
            unfold intsD at h2
            obtain ⟨k, h4, rfl⟩ := Option.map_eq_some_iff.mp h2
            rw [ih l k h3 h4]; rfl
          | none => cases h2
          | bool _ => cases h2
          | str _ => cases h2
          | list _ => cases h2
          | tuple _ => cases h2
          | dict _ => cases h2
        | lst _ => cases h1
        | tup _ => cases h1
        | dK _ _ => cases h1
        | dT _ _ => cases h1
    rw [key ms ds ns h1 h2]
  · cases h
/-- the iterator gives ds, while I stands; nothing in the items is a list -/
structure LiveI (K : PySem.W.Frag) (J : It) (ds : List PyData) (I : Hp → Prop) : Prop where
  goes : ∀ i H, i < ds.length → I H → J.go i H
  stops : ∀ H, I H → J.stop ds.length H
  yields : ∀ i H x H' d, ds[i]? = some d → I H → J.yld i H x H' → (∀ a o, H a = some o → H' a = some o) ∧ ∀ G, RF K H' G x d
theorem rfs_ints {K : PySem.W.Frag} {H : Hp} {G : Addr → Prop} : ∀ ns : List Int, RFs K H G (ns.map V.int) (ns.map .int)
  | [] => .nil
  | n :: ns => .cons (.int n) (rfs_ints ns)
section
variable {K : PySem.W.Frag}
theorem liveI_list {a : Addr} {ns : List Int} : LiveI K (Itl K a) (ns.map .int) (fun H => H a = some (.lst (ns.map V.int))) where
  goes := fun i H hi h => ⟨ns.map V.int, (ns.map V.int)[i]'(by simpa using hi), .inl (.inl h), List.getElem?_eq_getElem _⟩
  stops := fun H h => ⟨ns.map V.int, .inl (.inl h), by simp⟩
  yields := fun i H x H' d hd h y => by
    obtain ⟨e, y⟩ := y
    subst e
    refine ⟨fun _ _ e => e, fun G => ?_⟩
    obtain ⟨v, e1, r1⟩ := (rfs_ints (K := K) (H := H') (G := G) ns).get hd
    have := y _ (.inl (.inl h))
    rw [e1] at this; cases this
    exact r1
theorem liveI_en {a : Addr} {ns : List Int} : LiveI K (EnL K a) (enD (ns.map .int)) (fun H => H a = some (.lst (ns.map V.int))) where
  goes := fun i H hi h => ⟨ns.map V.int, (ns.map V.int)[i]'(by rw [enD_len] at hi; simpa using hi), .inl (.inl h), List.getElem?_eq_getElem _⟩
  stops := fun H h => ⟨ns.map V.int, .inl (.inl h), by rw [enD_len]; simp⟩
  yields := fun i H x H2 d hd h y => by
    obtain ⟨T, w, ob, rfl, hn, rfl, ho, hw⟩ := y
    obtain ⟨d', hd', rfl⟩ := enD_get hd
    refine ⟨fun c o e => upd_keep hn c o e, fun G => ?_⟩
    obtain ⟨v, e1, r1⟩ := (rfs_ints (K := K) (H := H) (G := G) ns).get hd'
    have := hw _ (.inl (.inl h))
    rw [e1] at this; cases this
    exact (pair_new hn ho (.int _) r1).2
end
def ioS (io : Nat → Bool) (s : Nat) : Nat → Bool := fun i => io i || i == s
theorem Held.less {io : Nat → Bool} {s : Nat} {σ σ' : L2.St} (h : Held (ioS io s) σ σ') : Held io σ σ' := ⟨h.1, fun i hi => h.2 i (by unfold ioS; rw [hi]; rfl)⟩
theorem Held.at_s {io : Nat → Bool} {s : Nat} {σ σ' : L2.St} (h : Held (ioS io s) σ σ') : σ'[s]? = σ[s]? := h.2 s (by unfold ioS; simp)
section
variable {K : PySem.W.Frag} {mg : Str → Option Value} {W : WX} {io : Nat → Bool} {D : Ends} {Z : Addr → Prop} {O : List Addr} {σ : L2.St} {H : Hp}
theorem rms_intsI {G : Addr → Prop} : ∀ {ns : List Int} {xs : List V} {F : List Addr}, RMs K H G xs (ns.map fun n => .fz (.int n)) F → xs = ns.map V.int ∧ F = []
  | [], _, _, .nil => ⟨rfl, rfl⟩
  | n :: ns, _, _, .cons h r => by
    obtain ⟨h1, rfl⟩ := h.fzD
    cases h1.intI
    obtain ⟨rfl, rfl⟩ := rms_intsI (ns := ns) r
    exact ⟨rfl, rfl⟩
/-- the name's list is let out of its slot -/
theorem SI.lend {env : Ev} {s : Nat} {ns : List Int} (I : SI K Z O env σ H) (e : env[s]? = some (some (.lst (ns.map fun n => .fz (.int n))))) :
    ∃ a O', σ[s]? = some (some (.ref a)) ∧ H a = some (.lst (ns.map V.int)) ∧ SI K (Zp Z [a]) O' (env.set s none) σ H ∧ ¬ Z a ∧ Step O H O' [a] H := by
  obtain ⟨O', v, F, h1, I2, r, nd, nz, st⟩ := SI.take I e
  cases r with
  | lst ha rs =>
    obtain ⟨rfl, rfl⟩ := rms_intsI rs
    exact ⟨_, O', h1, ha, I2, nz _ List.mem_cons_self, st⟩
/-- .. and comes back -/
theorem SI.back {env : Ev} {s : Nat} {ns : List Int} {a : Addr} {O' : List Addr} {σ' : L2.St} {H' : Hp} (I : SI K (Zp Z [a]) O' env σ' H') (e : env[s]? = some none) (ha : H' a = some (.lst (ns.map V.int))) (hs : σ'[s]? = some (some (.ref a))) (nz : ¬ Z a) (st : Step O H O' [a] H') :
    ∃ O2, SI K Z O2 (env.set s (some (.lst (ns.map fun n => .fz (.int n))))) σ' H' ∧ Step O H O2 [] H' := by
  have na : a ∉ O' := fun h => I.nz a h (.inr List.mem_cons_self)
  have key : ∀ ns : List Int, RMs K H' (fun b => ¬ Z b ∧ b ∉ O' ∧ b ∉ [a]) (ns.map V.int) (ns.map fun n => .fz (.int n)) [] := fun ns => rms_ints ns
  have r : RM K H' (fun b => ¬ Z b ∧ b ∉ O' ∧ b ∉ [a]) (.ref a) (.lst (ns.map fun n => .fz (.int n))) [a] := .lst ha (key ns)
  obtain ⟨O2, I2, st2⟩ := SI.put (O := O) (H := H) I (i := s) (List.getElem?_eq_some_iff.mp e).1 r (List.pairwise_singleton _ _) (fun b hb z => nz (by rw [← List.mem_singleton.mp hb]; exact z)) st
  have e2 : σ'.set s (some (.ref a)) = σ' := by
    apply List.ext_getElem?
    intro j
    by_cases hj : s = j
    · subst hj
      rw [List.getElem?_set_self (List.getElem?_eq_some_iff.mp hs).1, hs]
    · rw [List.getElem?_set_ne hj]
  rw [e2] at I2
  exact ⟨O2, I2, st2⟩
/-- what follows, told from behind the loan -/
theorem EndS.lent {s a : Nat} {O' : List Addr} {σ' : L2.St} {H' : Hp} {m : M} {r : Out} (st : Step O H O' [a] H') (hd : Held (ioS io s) σ σ') (h : EndS K mg W io D Z O σ H (restO s m r)) : match r with
    | .ret m' e => EndS K mg W (ioS io s) D (Zp Z [a]) O' σ' H' (.ret m' e)
    | .exn c e => EndS K mg W (ioS io s) D (Zp Z [a]) O' σ' H' (.exn c e)
    | _ => True := by
  cases r with
  | nx e => trivial
  | brk e => trivial
  | ct e => trivial
  | stuck => trivial
  | ret m' e =>
    intro v σ2 H2 p
    obtain ⟨O2, F, I, rm, nd, nz, st2⟩ := p.ex
    refine h v σ2 H2 ⟨⟨O2, F, I.weak fun b z => ?_, rm.imp fun b g => ⟨fun z => g.1 (.inl z), g.2.1, g.2.2⟩, nd, fun b hb z => nz b hb (.inl z), (st.trans st2).weak fun b hb => List.mem_append_right _ hb⟩, (hd.trans p.io).less⟩
    rcases z with z | z
    · exact .inl (.inl z)
    · exact .inr z
  | exn c e =>
    intro cls d σ2 H2 p
    obtain ⟨O2, I, st2⟩ := p.ex
    exact h cls d σ2 H2 ⟨⟨O2, I.weak fun b z => .inl z, (st.trans st2).weak fun _ z => nomatch z⟩, (hd.trans p.io).less, p.er⟩
end
section
variable {X : Cx} {io : Nat → Bool} {b : Ev → Out} {p : Tg} {ss : List Stmt} {e iter tg : Expr} {pos : Pos}
theorem forO_core {W : WX} {s : Nat} {D : Ends} {σ : L2.St} {H : Hp} {Z : Addr → Prop} {O O1 : List Addr} {env : Ev} {a : Addr} {ns : List Int} (I1 : SI X.K (Zp Z [a]) O1 env σ H) (nz : ¬ Z a) (st1 : Step O H O1 [a] H) (hsl : σ[s]? = some (some (.ref a))) (ha : H a = some (.lst (ns.map V.int)))
    (J : It) (ds : List PyData) (L : LiveI X.K J ds (fun H => H a = some (.lst (ns.map V.int)))) (h : EndS X.K X.mg W io D Z O σ H (restO s (.lst (ns.map fun n => .fz (.int n))) (runF p b ds env))) :
    ∃ W' : Nat → Nat → L2.St → Hp → Prop, (∃ m, W' 0 m σ H) ∧ ∀ i m σ H, W' i m σ H → (J.stop i H ∧ D.nx σ H) ∨ (J.go i H ∧ ∃ N : L2.St → Hp → Prop, (∀ σ' H', N σ' H' → ∃ m', m' < m ∧ W' (i + 1) m' σ' H') ∧ ∀ x H', J.yld i H x H' → TUG X.K (ioS io s) false p x σ H' fun σ2 H2 => TUS X.K X.mg W (ioS io s) b { D with nx := N, ct := N, bk := D.nx } σ2 H2) := by
  have wk : L2.Walk J ds.length (fun H => H a = some (.lst (ns.map V.int))) (fun i H x H' => ∀ d, ds[i]? = some d → (∀ a o, H a = some o → H' a = some o) ∧ ∀ G, RF X.K H' G x d) :=
    ⟨fun i H hi s => L.goes i H hi s, fun H s => L.stops H s, fun i H x H' hi s y d hd => L.yields i H x H' d hd s y⟩
  -- the end of the walk
  have fin : ∀ {e' : Ev} {O' : List Addr} {σ' : L2.St} {H' : Hp}, SI X.K (Zp Z [a]) O' e' σ' H' → H' a = some (.lst (ns.map V.int)) → Held (ioS io s) σ σ' → Step O H O' [a] H' → EndS X.K X.mg W io D Z O σ H (restO s (.lst (ns.map fun n => .fz (.int n))) (.nx e')) → D.nx σ' H' := fun {e' O' σ' H'} I' ha' hd st h => by
    have e0 : restO s (.lst (ns.map fun n => .fz (.int n))) (.nx e') = if isNon e' s = true then .nx (e'.set s (some (.lst (ns.map fun n => .fz (.int n))))) else .stuck := rfl
    rw [e0] at h
    by_cases hn : isNon e' s = true
    · rw [if_pos hn] at h
      have hn2 : e'[s]? = some none := by
        unfold isNon at hn
        split at hn
        · assumption
        · cases hn
      obtain ⟨O2, I2, st2⟩ := SI.back I' hn2 ha' (by rw [hd.at_s]; exact hsl) nz st
      exact h σ' H' ⟨⟨O2, I2, st2⟩, hd.less⟩
    · rw [if_neg hn] at h
      exact h.elim
  refine for_it wk (fun i σ' H' => ∃ O' e', SI X.K (Zp Z [a]) O' e' σ' H' ∧ H' a = some (.lst (ns.map V.int)) ∧ Held (ioS io s) σ σ' ∧ Step O H O' [a] H' ∧ EndS X.K X.mg W io D Z O σ H (restO s (.lst (ns.map fun n => .fz (.int n))) (runF p b (ds.drop i) e'))) ⟨O1, env, I1, ha, Held.refl, st1, h⟩ (fun i σ' H' _ ⟨O', e', _, s', _⟩ => s') ?_ ?_
  · rintro i x σ2 H2 H3 hi ⟨O2, e2, I2, a2, hd2, st2, h2⟩ y
    obtain ⟨gr, r⟩ := y ds[i] (List.getElem?_eq_getElem hi)
    have I3 := I2.grow gr
    have st3 : Step O2 H2 O2 [] H3 := ⟨fun a o n e => ⟨gr a o e, n, fun z => nomatch z⟩⟩
    have a3 := gr _ _ a2
    rw [List.drop_eq_getElem_cons hi] at h2
    unfold runF at h2
    refine ⟨Zp Z [a], O2, e2, ds[i], I3, r _, ?_⟩
    cases ep : p ds[i] e2 with
    | none => rw [ep] at h2; exact h2.elim
    | some e4 =>
      simp only [ep] at h2
      intro σ4 H4 p4 _
      obtain ⟨O4, I4, st4⟩ := p4.ex
      have na2 : a ∉ O2 := fun z => I2.nz a z (.inr List.mem_cons_self)
      have na4 : a ∉ O4 := fun z => I4.nz a z (.inr List.mem_cons_self)
      have a4 := (st4.keep a _ na2 a3).1
      have st24 : Step O H O4 [a] H4 := ((st2.trans st3).trans st4).weak fun b hb => by simpa using hb
      have hd4 := hd2.trans p4.io
      refine ⟨Zp Z [a], O4, e4, I4, ?_⟩
      have again : ∀ {e5 : Ev}, EndS X.K X.mg W io D Z O σ H (restO s (.lst (ns.map fun n => .fz (.int n))) (runF p b (ds.drop (i + 1)) e5)) → ∀ σ' H', PostS X.K (Zp Z [a]) O4 (ioS io s) σ4 H4 e5 σ' H' → ∃ O' e', SI X.K (Zp Z [a]) O' e' σ' H' ∧ H' a = some (.lst (ns.map V.int)) ∧ Held (ioS io s) σ σ' ∧ Step O H O' [a] H' ∧ EndS X.K X.mg W io D Z O σ H (restO s (.lst (ns.map fun n => .fz (.int n))) (runF p b (ds.drop (i + 1)) e')) := fun {e5} h5 σ' H' p5 => by
        obtain ⟨O5, I5, st5⟩ := p5.ex
        exact ⟨O5, e5, I5, (st5.keep a _ na4 a4).1, hd4.trans p5.io, (st24.trans st5).weak fun b hb => by simpa using hb, h5⟩
      cases eb : b e4 with
      | nx e5 => rw [eb] at h2; exact again h2
      | ct e5 => rw [eb] at h2; exact again h2
      | brk e5 =>
        rw [eb] at h2
        intro σ5 H5 p5
        obtain ⟨O5, I5, st5⟩ := p5.ex
        exact fin I5 (st5.keep a _ na4 a4).1 (hd4.trans p5.io) ((st24.trans st5).weak fun b hb => by simpa using hb) h2
      | ret m e5 => rw [eb] at h2; exact EndS.lent st24 hd4 h2
      | exn c e5 => rw [eb] at h2; exact EndS.lent st24 hd4 h2
      | stuck => rw [eb] at h2; exact h2.elim
  · rintro σ' H' ⟨O', e', I', a', hd', st', h'⟩
    rw [List.drop_length] at h'
    exact fin I' a' hd' st' h'
theorem ss_forO {s : Nat} {en : Bool} {te : TI} (hp : PassesOwn (model X.prog X.w) X.A X.env X.xe) (hc : X.calm = true) (hi : PI X tg iter te)
    (hte : ∀ σ H R a (ns : List Int), σ[s]? = some (some (.ref a)) → H a = some (.lst (ns.map V.int)) → R (if en = true then EnL X.K a else Itl X.K a) H → te σ H R)
    (hg : SG X (ioS io s) false p tg) (hb : SSs X (ioS io s) b ss)
    (hs : ∀ x, foldedSetIterable iter X.env x = pure x := by intro _; rfl) : SS X io (dForO p en s b) (.For tg iter ss [] pos) := fun W tk => PS.imp (ps_for hp hc hi hg (hb W tk) hs) fun D σ H ⟨Z, O, env, I, h⟩ => by
  unfold dForO at h
  split at h
  case h_2 => exact h.elim
  rename_i ns hns
  have hE := lstInts_some hns
  obtain ⟨a, O1, hsl, ha, I1, nz, st1⟩ := SI.lend I hE
  refine hte σ H _ a ns hsl ha ?_
  cases en with
  | true => exact forO_core I1 nz st1 hsl ha (EnL X.K a) _ liveI_en h
  | false => exact forO_core I1 nz st1 hsl ha (Itl X.K a) _ liveI_list h
/-- for x in name -/
theorem forO_ {s : Nat} {x : Str} {px : Pos} (hp : PassesOwn (model X.prog X.w) X.A X.env X.xe) (hc : X.calm = true) (hg : SG X (ioS io s) false p tg) (hb : SSs X (ioS io s) b ss) (hN : X.N[s]? = some x := by rfl) (hv : Vis X.env.scope x := by first | exact Or.inl rfl | exact Or.inr (Or.inl rfl) | exact Or.inr (Or.inr rfl)) (hd : (x == ("__debug__" : Str)) = false := by decide) (hcd : (x == ("__classdict__" : Str)) = false := by decide)
    (hs : ∀ z, foldedSetIterable (.Name x px) X.env z = pure z := by intro _; rfl) : SS X io (dForO p false s b) (.For tg (.Name x px) ss [] pos) :=
  ss_forO hp hc (pi_list (tg := tg) (pe_var hN hv hd hcd)) (fun σ H R a ns h1 h2 h3 => ⟨.ref a, h1, a, rfl, ⟨_, .inl (.inl h2)⟩, h3⟩) hg hb hs
/-- for .., .. in enumerate(name) -/
theorem forOE_ {s : Nat} {x : Str} {px pe pc tpos : Pos} {elts : List Expr} {kk : Nat} (hp : PassesOwn (model X.prog X.w) X.A X.env X.xe) (hc : X.calm = true) (hm : X.mg "enumerate" = none) (hg : SG X (ioS io s) false p (.Tuple elts kk tpos)) (hb : SSs X (ioS io s) b ss) (hgl : Gl X "enumerate" := by rfl) (hN : X.N[s]? = some x := by rfl) (hv : Vis X.env.scope x := by first | exact Or.inl rfl | exact Or.inr (Or.inl rfl) | exact Or.inr (Or.inr rfl)) (hd : (x == ("__debug__" : Str)) = false := by decide) (hcd : (x == ("__classdict__" : Str)) = false := by decide)
    (hst : starEach [.Name x px] X.env = [(false, eval (.Name x px) X.env)] := by rfl) (hs : ∀ z, foldedSetIterable (.Call (.Name "enumerate" pe) [.Name x px] [] pc) X.env z = pure z := by intro _; rfl) : SS X io (dForO p true s b) (.For (.Tuple elts kk tpos) (.Call (.Name "enumerate" pe) [.Name x px] [] pc) ss [] pos) :=
  ss_forO hp hc (pi_enumL hgl hm (pa_cons (pe_var hN hv hd hcd) pa_nil hst) hst) (fun σ H R a ns h1 h2 h3 => ⟨.ref a, h1, a, _, rfl, .inl (.inl h2), h3⟩) hg hb hs
end
end Q

set_option Elab.async false
set_option linter.all false
set_option maxRecDepth 100000
set_option maxHeartbeats 4000000
/-! e[::-1] of a list, of a tuple. -/
namespace Q
open PySem PySem.Spec PyProof.Rows L2
section
variable {prog : Program} {w : World} {A : Around} {E : Value → Shared → Prop} {s : Shared}
theorem back_applied {slc : Addr} {vst : Value} {num : Nat} {Q : Int × Int × Nat → Shared → Prop} (hsl : s.heap.IsSliceOf slc .none .none vst) (pst : IsPart vst (some (-1))) (hq : Q ((num : Int) - 1, -1, num) s) : wpAny (model prog w) A (Builtin.Slice.sliceApplied (.ref slc) (pure (num : Int))) Q E s := by
  obtain ⟨ob, g1, g2, g3⟩ := id hsl
  unfold Builtin.Slice.sliceApplied Builtin.Slice.sliceFields
  refine wpAny_bind (wpAny_bind (wpAny_field g1 g3 (x := .none) rfl (wpAny_bind (wpAny_field g1 g3 (x := .none) rfl (wpAny_bind (wpAny_field g1 g3 (x := vst) rfl (wpAny_pure ?_)))))))
  refine wpAny_bind (HT.slicePart_ pst ?_)
  show wpAny _ _ (if ((-1 : Int) == 0) = true then _ else _) _ _ s
  rw [if_neg (by decide)]
  refine wpAny_bind (slicePart_none (wpAny_bind (slicePart_none (wpAny_bind (wpAny_pure ?_)))))
  have e1 : Builtin.Slice.sliceAdjust none none (-1) (num : Int) = ((num : Int) - 1, -1) := rfl
  have e2 : Builtin.Slice.slicePlaces ((num : Int) - 1) (-1) (-1) = num := by
    unfold Builtin.Slice.slicePlaces
    have z : ¬ ((-1 : Int) > 0) := by decide
    simp only [z, if_false]
    by_cases hp : (num : Int) - 1 > -1
    · rw [if_pos hp]
      rw [show (- -1 : Int) = 1 by decide, Int.ediv_one]
      omega
    · rw [if_neg hp]
      omega
  show wpAny _ _ (match Builtin.Slice.sliceAdjust none none (-1) (num : Int) with | (a, b) => pure (a, (-1 : Int), Builtin.Slice.slicePlaces a b (-1))) _ _ s
  rw [e1]
  show wpAny _ _ (pure ((num : Int) - 1, (-1 : Int), Builtin.Slice.slicePlaces ((num : Int) - 1) (-1) (-1))) _ _ s
  rw [e2]
  exact wpAny_pure hq
theorem pick_back (xs : Array Value) : ((List.range xs.size).filterMap fun (j : Nat) => xs[(((xs.size : Int) - 1) + (j : Int) * -1).toNat]?).toArray = xs.toList.reverse.toArray := by
  congr 1
  have e1 : (List.range xs.size).filterMap (fun (j : Nat) => xs[(((xs.size : Int) - 1) + (j : Int) * -1).toNat]?) = ((List.range xs.size).map fun k => xs.size - 1 - k).filterMap (xs[·]?) := by
    rw [List.filterMap_map]
    have key : ∀ l : List Nat, (∀ j ∈ l, j < xs.size) → l.filterMap (fun (j : Nat) => xs[(((xs.size : Int) - 1) + (j : Int) * -1).toNat]?) = l.filterMap ((xs[·]?) ∘ fun k => xs.size - 1 - k) := by
      intro l
      induction l with
      | nil => intro _; rfl
      | cons j l ih =>
        intro h
        have hj := h j List.mem_cons_self
        have e : ((((xs.size : Int) - 1) + (j : Int) * -1).toNat) = xs.size - 1 - j := by omega
        rw [List.filterMap_cons, List.filterMap_cons, ih fun x hx => h x (List.mem_cons_of_mem _ hx), e]
        rfl
    exact key _ fun j hj => List.mem_range.mp hj
  rw [e1, PySem.W.krv_range, List.filterMap_reverse, PySem.W.krv_all]
theorem tuple_back {tp slc : Addr} {its : Array Value} {vst : Value} {Q : Value → Shared → Prop} (hTup : IsTup s.heap tp its) (hsl : s.heap.IsSliceOf slc .none .none vst) (pst : IsPart vst (some (-1)))
    (hq : Q (.ref s.heap.objs.size) { s with heap := s.heap.push { cls := .type "tuple", data := .seq its.toList.reverse.toArray } }) (hlen : its.size ≤ sizeLine) : wpAny (model prog w) A (getItem (.ref tp) (.ref slc)) Q E s := by
  have fits : sizeOk (.seq its.toList.reverse.toArray) := by
    show its.toList.reverse.toArray.size ≤ sizeLine
    rw [List.size_toArray, List.length_reverse, Array.length_toList]
    exact hlen
  obtain ⟨ob, g1, g2, g3⟩ := id hsl
  have tySl : s.TypeIs (.ref slc) "slice" := ⟨ob, g1, g2⟩
  unfold getItem
  try with_reducible refine wpAny_holding ?_
  first | refine wpAny_bind (wpAny_pure ?_) | skip
  refine wpAny_bind (wpAny_sequenceKey hTup.typeIs (by decide) ?_)
  refine wpAny_bind (wpAny_callSpecial?_slot (name := Str.ofString "__getitem__") hTup.typeIs PyProof.Rows.slot_tuple_getitem (wpAny_call_entry PyProof.Rows.slot_tuple_getitem hTup.typeIs entry_tuple_getitem ?_ (args_tuple_getitem _ _)))
  show wpAny _ _ (Builtin.Tuple.tupleItemsOf (.ref tp) >>= _) _ _ s
  refine wpAny_bind (tupleItemsOf_ hTup ?_)
  refine wpAny_bind (wpAny_typeOf tySl ?_)
  rw [if_pos (by decide)]
  refine wpAny_bind (back_applied hsl pst ?_)
  have nope : ¬ ((((its.size : Int) - 1) == 0 && (-1 : Int) == 1 && its.size == its.size) = true) := by
    intro q
    rw [Bool.and_eq_true, Bool.and_eq_true] at q
    exact absurd q.1.2 (by decide)
  show wpAny _ _ (if (((its.size : Int) - 1) == 0 && (-1 : Int) == 1 && its.size == its.size) = true then _ else _) _ _ s
  rw [if_neg nope, pick_back]
  first
    | exact wpAny_bind (m := Builtin.Tuple.tupleExact _) (wpAny_newObj_type (wpAny_pure ⟨_, rfl, wpAny_pure hq⟩) fits)
    | exact wpAny_bind (m := Builtin.Tuple.tupleExact _) (wpAny_newObj_type (wpAny_bind (wpAny_pure (wpAny_pure ⟨_, rfl, wpAny_pure hq⟩))) fits)
    | exact wpAny_bind (wpAny_bind (m := Builtin.Tuple.tupleExact _) (wpAny_newObj_type (wpAny_pure (wpAny_pure ⟨_, rfl, wpAny_pure hq⟩)) fits))
    | exact wpAny_bind (wpAny_bind (m := Builtin.Tuple.tupleExact _) (wpAny_newObj_type (wpAny_pure ⟨_, rfl, wpAny_pure hq⟩) fits))
end
section
variable {X : Cx}
def tRevA (K : PySem.W.Frag) (te : TE) : TE := fun σ H Q => te σ H fun x H1 => ∃ a xs, x = .ref a ∧ ((SqL K H1 a xs ∧ ∀ p, H1 p = none → Q (.ref p) (upd H1 p (.lst xs.reverse))) ∨ (SqT K H1 a xs ∧ NewT H1 xs.reverse Q))
theorem pe_revA {e : Expr} {te : TE} {k : Nat} {q1 q2 q3 qq : Pos} (hte : PE X e te) : PE X (.Subscript e (.Slice none none (some (.UnaryOp .USub (.Constant (.int 1) k q1) q2)) q3) qq) (tRevA X.K te) := by
  refine ⟨fun pins s σ H Q I0 h0 => ?_⟩
  refine Subscript_ (thn (hte.run pins s σ H _ I0 h0) fun u s1 ⟨x, Ha, Ia, ra, qa⟩ => ?_)
  obtain ⟨a, xs, ex, hx⟩ := qa
  subst ex
  cases ra
  have hst : PO X (some (.UnaryOp .USub (.Constant (.int 1) k q1) q2)) (tPart (tUn (rU fun i => .int (-i)) (tC (.int 1)))) := po_some (pe_un un_neg pe_int)
  refine wpAny_Slice (thn (po_none.run pins s1 σ Ha (fun o Hb => o = none ∧ Hb = Ha) Ia ⟨rfl, rfl⟩) fun vl s2 ⟨l, Hb, Ib, pl, el, eb⟩ => ?_)
  subst el eb
  refine thn (po_none.run pins s2 σ Hb (fun o Hc => o = none ∧ Hc = Hb) Ib ⟨rfl, rfl⟩) fun vu s3 ⟨l2, Hc, Ic, pu, eu, ec⟩ => ?_
  subst eu ec
  refine thn (hst.run pins s3 σ Hc (fun o Hd => o = some (-1) ∧ Hd = Hc) Ic ⟨1, rfl, -1, rfl, rfl, rfl⟩) fun vst s4 ⟨o, Hd, Id, ps, eo, ed⟩ => ?_
  subst eo ed
  cases pl
  cases pu
  have Ie : Inv X pins σ Hd { s4 with heap := s4.heap.push { cls := .type "slice", data := .fields #[.none, .none, vst] } } := Id.kept (t' := s4.toks) fun b ob q => Heap.get?_push_of_some _ q
  show wpAny (model X.prog X.w) X.A (subscriptTail e (.Slice none none (some (.UnaryOp .USub (.Constant (.int 1) k q1) q2)) q3) (.ref a) (.ref s4.heap.objs.size)) (EP X pins σ Q) X.xe { s4 with heap := s4.heap.push { cls := .type "slice", data := .fields #[.none, .none, vst] } }
  rcases hx with ⟨hx, q⟩ | ⟨hx, q⟩
  · obtain ⟨its, r, ht, hz⟩ := Ie.list hx
    have hlen := r.length
    refine tail_any (ops := [.ref a, .ref s4.heap.objs.size]) ht.isList.typeIs (PySem.slot_list_getitem.lookup) ?_ (by with_unfolding_all rfl)
    refine wpAny_getItem_list_slice ht.isList (Heap.IsSliceOf.new _ .none .none vst) .none .none ps (by decide) ?_ (by rw [List.size_toArray]; omega)
    rw [PySem.W.krv_pick]
    refine ⟨.ref _, _, Ie.laid (t' := s4.toks) (o := .lst xs.reverse) (fun b ob q => Heap.get?_push_of_some _ q) (Nat.le_refl _) ?_, rfl, q _ (Ie.hok.fresh (Nat.le_refl _))⟩
    exact ⟨by rw [List.length_reverse]; exact hz, _, 0, r.reverse, Heap.get?_push_size _ rfl⟩
  · obtain ⟨its, r, ht, hz⟩ := Ie.tuple hx
    have hlen := r.length
    refine tail_any (ops := [.ref a, .ref s4.heap.objs.size]) ht.typeIs (PyProof.Rows.slot_tuple_getitem.lookup) ?_ (by with_unfolding_all rfl)
    refine tuple_back ht (Heap.IsSliceOf.new _ .none .none vst) ps ?_ (by rw [List.size_toArray]; omega)
    have ok := Ie.laid (t' := s4.toks) (fun b ob q => Heap.get?_push_of_some _ q) (Nat.le_refl _) (tf_ok r.reverse (by rw [List.length_reverse]; exact hz))
    refine ⟨.ref _, _, ok, rfl, q _ _ (Ie.hok.fresh (Nat.le_refl _)) rfl⟩
def kRev : List Val → Option Val
  | [.own (.fz (.tuple ds))] => some (.own (.fz (.tuple ds.reverse)))
  | [x] => (lv x).map fun ds => .own (.lst (ds.reverse.map .fz))
  | _ => none
theorem se_rev {f : Ev → Res} {e : Expr} {k : Nat} {q1 q2 q3 qq : Pos} (he : SE X f e) : SE X (dF Ql.n kRev [f]) (.Subscript e (.Slice none none (some (.UnaryOp .USub (.Constant (.int 1) k q1) q2)) q3) qq) := fun W tk =>
  PE.imp (pe_revA (he W tk)) fun σ H Q h => tu_one (tul_F h fun Z O env env' q xs y I hk hlen vs H' pl kk v ev => by
    subst ev
    obtain ⟨O', F, pa⟩ := pl.ex
    have rr := pa.2.1
    unfold kRev at hk
    split at hk
    · rename_i ds
      cases hk
      cases rr.fz1 with
      | tup hq rs => exact ⟨_, _, rfl, .inr ⟨hq.t, fun p o hn ho => kk _ _ (pa.newT rs.reverse hn ho)⟩⟩
    · rename_i x _
      obtain ⟨ds, e, ey⟩ := Option.map_eq_some_iff.mp hk
      subst ey
      obtain ⟨a, ws, rfl, hr, rs⟩ := rr.lv e
      exact ⟨a, ws, rfl, .inl ⟨.inl hr, fun p hn => kk _ _ (pa.newL rs.reverse.tms (List.nil_sublist _) hn)⟩⟩
    · cases hk)
end
theorem yq_revT {f : Ev → Res} {env : Ev} {ds : List PyData} (h : YQ f env (.own (.fz (.tuple ds)))) : YQ (dF Ql.n kRev [f]) env (.own (.fz (.tuple ds.reverse))) := yq_Fn (ys_cons h ys_nil) rfl
theorem PostL.fz2 {K : PySem.W.Frag} {Z : Addr → Prop} {O : List Addr} {env env1 : Ev} {σ : L2.St} {H H' : Hp} {vs : List V} {d e : PyData} {q : Ql} (p : PostL K Z O env σ H vs H' [.own (.fz d), .own (.fz e)] env1 q) :
    ∃ O' v w, vs = [v, w] ∧ SI K Z O' env1 σ H' ∧ RF K H' (fun a => ¬ Z a ∧ a ∉ O') v d ∧ RF K H' (fun a => ¬ Z a ∧ a ∉ O') w e ∧ Step O H O' [] H' ∧ (q ≠ .l → Quiet H H') := by
  obtain ⟨O', F, I, r, nd, nz, st, qu, _⟩ := p.ex
  cases r with
  | own h hr =>
    cases hr with
    | own h2 hr =>
      cases hr
      obtain ⟨h, rfl⟩ := h.fzD
      obtain ⟨h2, rfl⟩ := h2.fzD
      rw [List.append_nil, List.append_nil, Zp_nil] at I
      exact ⟨O', _, _, rfl, I, h.imp fun a g => ⟨g.1, g.2.1⟩, h2.imp fun a g => ⟨g.1, g.2.1⟩, st, qu⟩
end Q

set_option Elab.async false
set_option linter.all false
set_option maxRecDepth 100000
set_option maxHeartbeats 4000000
/-! Dicts with ints and texts as keys, frozen data as values, owned by a name. -/
namespace Q
open PySem PySem.Spec PyProof.Rows L2
/-! ### tables -/
def dicM (t : List (Key × PyData)) : M := .dK (t.map (·.1)) (t.map fun p => .fz p.2)
def dicOf : Option (Option M) → Option (List (Key × PyData))
  | some (some (.dK ks ms)) => (leaves ms).map fun ds => ks.zip ds
  | _ => none
def keyD : PyData → Option Key
  | .int i => some (.inl i)
  | .str x => some (.inr x)
  | _ => none
def putD (t : List (Key × PyData)) (k : Key) (d : PyData) : List (Key × PyData) :=
  if (t.any fun p => decide (p.1 = k)) = true then t.map (fun p => if p.1 = k then (p.1, d) else p) else t ++ [(k, d)]
def findD (t : List (Key × PyData)) (k : Key) : Option PyData := (t.find? fun p => decide (p.1 = k)).map (·.2)
section
variable {K : PySem.W.Frag} {H H' : Hp} {G G' : Addr → Prop}
/-- a table of values stands for a table of data -/
inductive RT (K : PySem.W.Frag) (H : Hp) (G : Addr → Prop) : List (Key × V) → List (Key × PyData) → Prop
  | nil : RT K H G [] []
  | cons {k : Key} {v : V} {d : PyData} {kvs : List (Key × V)} {t : List (Key × PyData)} : RF K H G v d → RT K H G kvs t → RT K H G ((k, v) :: kvs) ((k, d) :: t)
theorem RT.len : ∀ {kvs : List (Key × V)} {t : List (Key × PyData)}, RT K H G kvs t → kvs.length = t.length
  | _, _, .nil => rfl
  | _, _, .cons _ r => by rw [List.length_cons, List.length_cons, RT.len r]
theorem RT.rfs : ∀ {kvs : List (Key × V)} {t : List (Key × PyData)}, RT K H G kvs t → RFs K H G (kvs.map (·.2)) (t.map (·.2)) ∧ kvs.map (·.1) = t.map (·.1)
  | _, _, .nil => ⟨.nil, rfl⟩
  | _, _, .cons h r => ⟨.cons h (RT.rfs r).1, by rw [List.map_cons, List.map_cons, (RT.rfs r).2]⟩
theorem RT.of : ∀ {kvs : List (Key × V)} {ds : List PyData}, RFs K H G (kvs.map (·.2)) ds → RT K H G kvs ((kvs.map (·.1)).zip ds)
  | [], _, r => by
    rw [List.map_nil] at r ⊢
    cases r
    exact .nil
  | p :: kvs, _, r => by
    rw [List.map_cons] at r
    cases r with
    | cons h r => exact .cons h (RT.of r)
theorem RT.any : ∀ {kvs : List (Key × V)} {t : List (Key × PyData)} {k : Key}, RT K H G kvs t → (kvs.any fun p => decide (p.1 = k)) = (t.any fun p => decide (p.1 = k))
  | _, _, _, .nil => rfl
  | _, _, _, .cons _ r => by rw [List.any_cons, List.any_cons, RT.any r]
theorem RT.over : ∀ {kvs : List (Key × V)} {t : List (Key × PyData)} {k : Key} {v : V} {d : PyData}, RT K H G kvs t → RF K H G v d → RT K H G (kvs.map fun p => if p.1 = k then (p.1, v) else p) (t.map fun p => if p.1 = k then (p.1, d) else p)
  | _, _, _, _, _, .nil, _ => .nil
  | _, _, k, _, _, .cons (k := k') h r, q => by
    rw [List.map_cons, List.map_cons]
    by_cases e : k' = k
    · simp only [e, if_true]
      exact .cons q (RT.over r q)
    · simp only [e, if_false]
      exact .cons h (RT.over r q)
theorem RT.snoc : ∀ {kvs : List (Key × V)} {t : List (Key × PyData)} {k : Key} {v : V} {d : PyData}, RT K H G kvs t → RF K H G v d → RT K H G (kvs ++ [(k, v)]) (t ++ [(k, d)])
  | _, _, _, _, _, .nil, q => .cons q .nil
  | _, _, _, _, _, .cons h r, q => .cons h (RT.snoc r q)
theorem RT.put {kvs : List (Key × V)} {t : List (Key × PyData)} {k : Key} {v : V} {d : PyData} (r : RT K H G kvs t) (q : RF K H G v d) : RT K H G (putK kvs k v) (putD t k d) := by
  unfold putK putD
  rw [r.any]
  split
  · exact r.over q
  · exact r.snoc q
theorem RT.find : ∀ {kvs : List (Key × V)} {t : List (Key × PyData)} {k : Key}, RT K H G kvs t → (findD t k = none ∧ valV kvs k = none) ∨ ∃ v d, findD t k = some d ∧ valV kvs k = some v ∧ RF K H G v d
  | _, _, _, .nil => .inl ⟨rfl, rfl⟩
  | _, _, k, .cons (k := k') (v := v) (d := d) h r => by
    by_cases e : k' = k
    · exact .inr ⟨v, d, by simp [findD, e], by simp [valV, e], h⟩
    · have e1 : ∀ t, findD ((k', d) :: t) k = findD t k := fun t => by simp [findD, e]
      have e2 : ∀ kvs, valV ((k', v) :: kvs) k = valV kvs k := fun t => by simp [valV, e]
      rw [e1, e2]
      exact RT.find r
theorem RT.imp (i : ∀ a, G a → G' a) : ∀ {kvs : List (Key × V)} {t : List (Key × PyData)}, RT K H G kvs t → RT K H G' kvs t
  | _, _, .nil => .nil
  | _, _, .cons h r => .cons (h.imp i) (RT.imp i r)
theorem RT.step {O : List Addr} (om : OM H O) (go : ∀ a, G a → a ∉ O) (fr : ∀ a o, a ∉ O → H a = some o → H' a = some o) (gg : ∀ a o, G a → H a = some o → G' a) : ∀ {kvs : List (Key × V)} {t : List (Key × PyData)}, RT K H G kvs t → RT K H' G' kvs t
  | _, _, .nil => .nil
  | _, _, .cons h r => .cons (h.step om go fr gg) (RT.step om go fr gg r)
theorem fzs_map (t : List (Key × PyData)) : (t.map fun p => M.fz p.2) = (t.map (·.2)).map M.fz := by rw [List.map_map]; rfl
theorem RT.rm {kvs : List (Key × V)} {t : List (Key × PyData)} {a : Addr} (r : RT K H G kvs t) (h : H a = some (.dK kvs)) : RM K H G (.ref a) (dicM t) [a] := by
  obtain ⟨r1, e⟩ := r.rfs
  unfold dicM
  rw [← e, fzs_map]
  exact .dK h r1.tms
theorem dicOf_some {x : Option (Option M)} {t : List (Key × PyData)} (h : dicOf x = some t) : ∃ ks ms ds, x = some (some (.dK ks ms)) ∧ leaves ms = some ds ∧ t = ks.zip ds := by
  unfold dicOf at h
  split at h
  · rename_i ks ms
    obtain ⟨ds, h1, h2⟩ := Option.map_eq_some_iff.mp h
    exact ⟨ks, ms, ds, rfl, h1, h2.symm⟩
  · cases h
theorem SI.dic {Z : Addr → Prop} {O : List Addr} {env : Ev} {σ : L2.St} {s : Nat} {t : List (Key × PyData)} (I : SI K Z O env σ H) (h : dicOf env[s]? = some t) : ∃ a kvs, σ[s]? = some (some (.ref a)) ∧ H a = some (.dK kvs) ∧ RT K H (fun a => ¬ Z a ∧ a ∉ O) kvs t := by
  obtain ⟨ks, ms, ds, e, hl, et⟩ := dicOf_some h
  obtain ⟨v, F, h1, r, _⟩ := I.get e
  cases r with
  | dK ha rms =>
    obtain ⟨rf, _⟩ := rms.leaf hl
    rw [et]
    exact ⟨_, _, h1, ha, RT.of rf⟩
/-- a dict that a name owns is written -/
theorem SI.putK {Z : Addr → Prop} {O : List Addr} {env : Ev} {σ : L2.St} {s : Nat} {t t' : List (Key × PyData)} {a : Addr} {kvs' : List (Key × V)} (I : SI K Z O env σ H) (h : dicOf env[s]? = some t) (hs : σ[s]? = some (some (.ref a))) (r' : RT K H (fun a => ¬ Z a ∧ a ∉ O) kvs' t') :
    SI K Z O (env.set s (some (dicM t'))) σ (upd H a (.dK kvs')) ∧ Step O H O [] (upd H a (.dK kvs')) := by
  obtain ⟨ks, ms, ds, e, hl, et⟩ := dicOf_some h
  obtain ⟨Fs, sl, rfl⟩ := I.sl
  obtain ⟨v, Fv, h1, h2, h3⟩ := sl.get e
  rw [hs] at h1
  cases h1
  have hF : Fv = [a] := by
    cases h3 with
    | dK ha rms => rw [(rms.leaf hl).2]
  have hF2 : Fs.set s [a] = Fs := by
    apply List.ext_getElem?
    intro j
    by_cases q : s = j
    · subst q
      have hlt := (List.getElem?_eq_some_iff.mp h2).1
      rw [List.getElem?_set_self hlt, h2, hF]
    · rw [List.getElem?_set_ne q]
  have aO : a ∈ Fs.flatten := mem_flat_at h2 (by rw [hF]; exact List.mem_cons_self)
  have om : OM H [a] := fun b hb => I.om b (by rw [List.mem_singleton.mp hb]; exact aO)
  have fr : ∀ b o, b ∉ [a] → H b = some o → upd H a (.dK kvs') b = some o := fun b o n e => by
    rw [upd_ne (fun z => n (by rw [z]; exact List.mem_cons_self))]; exact e
  have rn : RT K (upd H a (.dK kvs')) (fun b => ¬ Z b ∧ b ∉ Fs.flatten) kvs' t' := r'.step om (fun b g hb => g.2 (by rw [List.mem_singleton.mp hb]; exact aO)) fr fun b _ g _ => g
  refine ⟨⟨⟨Fs, ?_, rfl⟩, I.nd, I.nz, fun b z => ?_⟩, ⟨fun b o n e => ?_⟩⟩
  · have z := Slots.stepL (O := [a]) (H' := upd H a (.dK kvs')) (G' := fun b => ¬ Z b ∧ b ∉ Fs.flatten) (m := dicM t') sl om (fun b g hb => g.2 (by rw [List.mem_singleton.mp hb]; exact aO)) (fun j Fj hj ej b hb hc => by
      rw [List.mem_singleton.mp hc] at hb
      exact flat_apart I.nd h2 ej (Ne.symm hj) a (by rw [hF]; exact List.mem_cons_self) hb) fr (fun b g => g) hs (rn.rm upd_same)
    rw [hF2] at z
    exact z
  · by_cases q : b = a
    · exact ⟨_, by rw [q]; exact upd_same⟩
    · obtain ⟨o, e⟩ := I.zt b z
      exact ⟨o, by rw [upd_ne q]; exact e⟩
  · have q : b ≠ a := fun z => n (by rw [z]; exact aO)
    exact ⟨by rw [upd_ne q]; exact e, n, fun z => nomatch z⟩
end
/-! ### {} -/
theorem new_dic {K : PySem.W.Frag} {Z : Addr → Prop} {O : List Addr} {env : Ev} {σ : L2.St} {H : Hp} {p : Addr} (I : SI K Z O env σ H) (hn : H p = none) : Post K Z O env σ H (.ref p) (upd H p (.dK [])) (.own (dicM [])) env .q := by
  have pl := PostL.newL (PostL.nil I) (p := p) rfl hn
  obtain ⟨O', F, I', r, nd, nz, st, qu, pp⟩ := pl.ex
  have k := upd_keep (o := .dK []) hn
  have nO : p ∉ O := fun z => by
    obtain ⟨o, e, _⟩ := I.owd p z
    rw [hn] at e; cases e
  have nZ : ¬ Z p := fun z => by
    obtain ⟨o, e⟩ := I.zt p z
    rw [hn] at e; cases e
  refine ⟨⟨O, [p], ?_, by simpa using RVs.own (F := [p]) (F' := []) (RT.rm (K := K) (H := upd H p (.dK [])) (G := fun a => ¬ Z a ∧ a ∉ O ∧ a ∉ [p]) .nil upd_same) .nil, List.nodup_cons.mpr ⟨(fun z => nomatch z), List.nodup_nil⟩, fun a ha => by rw [List.mem_singleton.mp ha]; exact nZ, ⟨fun a o n e => ⟨k a o e, n, fun z => ?_⟩⟩, fun _ => k, (fun z => by cases z)⟩⟩
  · obtain ⟨Fs, s, e⟩ := I.sl
    have key : ∀ {env : Ev} {σ : L2.St} {Fs : List (List Addr)}, Slots K H (fun a => ¬ Z a ∧ a ∉ O) env σ Fs → Slots K (upd H p (.dK [])) (fun a => ¬ Zp Z [p] a ∧ a ∉ O) env σ Fs := by
      intro env σ Fs s
      induction s with
      | nil => exact .nil
      | non _ ih => exact .non ih
      | som h _ ih =>
        refine .som (h.step (O := []) (fun _ z => nomatch z) (fun _ _ z => nomatch z) (fun _ _ z => nomatch z) (fun a o _ e => k a o e) fun a o g e => ⟨fun z => ?_, g.2⟩) ih
        rcases z with z | z
        · exact g.1 z
        · rw [List.mem_singleton.mp z, hn] at e; cases e
    refine ⟨⟨Fs, key s, e⟩, I.nd, fun a ha z => ?_, fun a z => ?_⟩
    · rcases z with z | z
      · exact I.nz a ha z
      · exact nO (List.mem_singleton.mp z ▸ ha)
    · rcases z with z | z
      · exact (I.zt a z).imp fun o q => k a o q
      · exact ⟨_, by rw [List.mem_singleton.mp z]; exact upd_same⟩
  · rw [List.mem_singleton.mp z, hn] at e; cases e
def dDic0 : Ev → Res := fun env => .ok (.own (dicM [])) env .q
section
variable {X : Cx} {io : Nat → Bool} {f g : Ev → Res} {e i a : Expr} {pos px tpos : Pos}
theorem se_dic0 : SE X dDic0 (.Dict [] [] pos) := fun W tk => PE.imp pe_dnewK fun σ H Q ⟨Z, O, env, I, h⟩ p hn => h _ _ (new_dic I hn)
/-! ### x[k] = v -/
def dPutK (s : Nat) (fi f : Ev → Res) : Ev → Out := fun env => match dFr f env with
  | .ok (.own (.fz d)) e1 _ => if held1 e1 s = true then (match dFr fi e1 with
    | .ok (.own (.fz kd)) e2 _ => (match keyD kd, dicOf e2[s]? with
      | some k, some t => if t.length < SZ then .nx (e2.set s (some (dicM (putD t k d)))) else .stuck
      | _, _ => .stuck)
    | .ok _ _ _ => .stuck
    | .exn c e => .exn c e
    | .stuck => .stuck) else .stuck
  | .ok _ _ _ => .stuck
  | .exn c e => .exn c e
  | .stuck => .stuck
theorem keyD_V {K : PySem.W.Frag} {H : Hp} {G : Addr → Prop} {v : V} {d : PyData} {k : Key} (r : RF K H G v d) (h : keyD d = some k) : v = kV k := by
  cases r <;> first | (cases h; rfl) | cases h
theorem ss_putK {s : Nat} {x : Str} (hu : X.A.units + 1 < cLine) (hN : X.N[s]? = some x) (hv : Vis X.env.scope x) (hi : SE X g i) (he : SE X f e) (hs : swapsWith e (some (.Subscript (.Name x px) i tpos)) pos.line X.env = pure false) (hd : (x == ("__debug__" : Str)) = false := by decide) (hcd : (x == ("__classdict__" : Str)) = false := by decide) :
    SS X io (dPutK s g f) (.Assign [.Subscript (.Name x px) i tpos] e pos) := fun W tk => PS.imp (ps_dput hu (pe_var hN hv hd hcd) (se_fr hi W tk) (se_fr he W tk) hs) fun D σ H ⟨Z, O, env, I, h⟩ => by
  refine ⟨Z, O, env, I, ?_⟩
  unfold dPutK at h
  cases ef : dFr f env with
  | stuck => rw [ef] at h; exact h.elim
  | exn c e1 => rw [ef] at h; exact EndS.exn h
  | ok y e1 q =>
    rw [ef] at h
    split at h
    case h_2 => exact h.elim
    case h_3 => contradiction
    case h_4 => contradiction
    rename_i d e1' q1' eq1
    cases eq1
    intro v H1 p1
    obtain ⟨O1, I1, r1, st1, _⟩ := p1.fz1
    split at h
    case isFalse => exact h.elim
    rename_i hh
    obtain ⟨w, hw⟩ := I1.val hh
    refine ⟨w, hw, Z, O1, e1, I1, ?_⟩
    cases eg : dFr g e1 with
    | stuck => rw [eg] at h; exact h.elim
    | exn c e2 => rw [eg] at h; exact fun cls d H' p => EndS.exn (h.after st1 Held.refl) cls d H' p
    | ok y2 e2 q2 =>
      rw [eg] at h
      split at h
      case h_2 => exact h.elim
      case h_3 => contradiction
      case h_4 => contradiction
      rename_i kd e2' q2' eq2
      cases eq2
      intro u H2 p2
      obtain ⟨O2, I2, r2, st2, _⟩ := p2.fz1
      split at h
      case h_2 => exact h.elim
      rename_i k t ek et
      split at h
      case isFalse => exact h.elim
      rename_i hl
      obtain ⟨a, kvs, ha, hH, rt⟩ := I2.dic et
      rw [hw] at ha
      cases ha
      have r1' : RF X.K H2 (fun a => ¬ Z a ∧ a ∉ O2) v d := r1.step I1.om (fun a g => g.2) (fun a o n e => (st2.keep a o n e).1) fun a o g e => ⟨g.1, (st2.keep a o g.2 e).2.1⟩
      obtain ⟨I3, st3⟩ := I2.putK et hw (rt.put (k := k) r1')
      have eu := keyD_V r2 ek
      subst eu
      refine ⟨a, _, rfl, DPut.k hH (by rw [rt.len, sizeLine_eq]; exact hl), ?_⟩
      exact h _ _ ⟨⟨O2, I3, (st1.tr0 st2).tr0 st3⟩, Held.refl⟩
/-! ### x.get(k, y) -/
def get2R (s : Nat) : ResL → Res
  | .ok [.own (.fz kd), .own (.fz yd)] e2 q => (match keyD kd, dicOf e2[s]? with
    | some k, some t => .ok (.own (.fz ((findD t k).getD yd))) e2 q.n
    | _, _ => .stuck)
  | .ok _ _ _ => .stuck
  | .exn c e => .exn c e
  | .stuck => .stuck
def dGet2 (s : Nat) (f g : Ev → Res) : Ev → Res := fun env => match dicOf env[s]? with
  | none => .stuck
  | some _ => get2R s (evs [dFr f, dFr g] env)
theorem get2R_ok {s : Nat} {xs : List Val} {e e' : Ev} {q q' : Ql} {x : Val} (h : get2R s (.ok xs e q) = .ok x e' q') : ∃ kd yd k t, xs = [.own (.fz kd), .own (.fz yd)] ∧ keyD kd = some k ∧ dicOf e[s]? = some t ∧ x = .own (.fz ((findD t k).getD yd)) ∧ e' = e ∧ q' = q.n := by
  unfold get2R at h
  split at h
  · rename_i kd yd e2 q2 eq
    cases eq
    split at h
    · rename_i k t ek et
      cases h
      exact ⟨kd, yd, k, t, rfl, ek, et, rfl, rfl, rfl⟩
    · cases h
  · cases h
  · cases h
  · cases h
theorem get2R_no {s : Nat} {xs : List Val} {e e' : Ev} {q : Ql} {c : Exn} (h : get2R s (.ok xs e q) = .exn c e') : False := by
  unfold get2R at h
  split at h
  · rename_i kd yd e2 q2 eq
    cases eq
    split at h <;> cases h
  · cases h
  · contradiction
  · cases h
theorem se_get2 {s : Nat} {x : Str} {e2 : Expr} {apos cpos : Pos} (hu : X.A.units + 1 < cLine) (hN : X.N[s]? = some x) (hv : Vis X.env.scope x) (hf : SE X f e) (hg : SE X g e2) (hd : (x == ("__debug__" : Str)) = false := by decide) (hcd : (x == ("__classdict__" : Str)) = false := by decide)
    (m : M2 X (.Name x px) "get" apos e e2 cpos := by exact ⟨rfl, rfl, rfl, rfl⟩) (hs : starEach [e, e2] X.env = (false, eval e X.env) :: starEach [e2] X.env := by rfl) (hs2 : starEach [e2] X.env = (false, eval e2 X.env) :: starEach [] X.env := by rfl) :
    SE X (dGet2 s f g) (.Call (.Attribute (.Name x px) "get" apos) [e, e2] [] cpos) := fun W tk => PE.imp (pe_dget2 hu (pe_var hN hv hd hcd) (se_fr hf W tk) (se_fr hg W tk) m) fun σ H Q ⟨Z, O, env, I, h⟩ => by
  unfold dGet2 at h
  cases et0 : dicOf env[s]? with
  | none => simp only [et0] at h
  | some t0 =>
  simp only [et0] at h
  obtain ⟨a, kvs0, ha, hH0, _⟩ := I.dic et0
  refine ⟨.ref a, ha, a, rfl, .inl ⟨kvs0, .inl hH0⟩, ?_⟩
  refine tu_two (R := fun v w H3 => ∃ o, DGet H3 a v o ∧ Q (o.getD w) H3) ⟨Z, O, env, I, ?_⟩
  cases ev : evs [dFr f, dFr g] env with
  | stuck => rw [ev] at h; exact h
  | exn c e1 => rw [ev] at h; exact h
  | ok xs e3 q =>
    rw [ev] at h
    cases er : get2R s (.ok xs e3 q) with
    | stuck => rw [er] at h; exact h.elim
    | exn c e1 => exact (get2R_no er).elim
    | ok x e4 q4 =>
    rw [er] at h
    obtain ⟨kd, yd, k, t, rfl, ek, et, rfl, rfl, rfl⟩ := get2R_ok er
    intro vs H2 pl v w evw
    subst evw
    obtain ⟨O', v', w', ew, I', r1, r2, st, qu⟩ := pl.fz2
    injection ew with e1 ew
    injection ew with e2 _
    subst e1 e2
    obtain ⟨a', kvs, ha', hH, rt⟩ := I'.dic et
    rw [ha] at ha'
    cases ha'
    have eu := keyD_V r1 ek
    subst eu
    have fin : ∀ {u : V} {d : PyData}, RF X.K H2 (fun a => ¬ Z a ∧ a ∉ O') u d → Post X.K Z O env σ H u H2 (.own (.fz d)) e4 q.n := fun {u d} r => ⟨⟨O', [], by rw [Zp_nil]; exact I', RVs.own (F := []) (F' := []) (RM.fz (r.imp fun a g => ⟨g.1, g.2, (fun z => nomatch z)⟩)) .nil, List.nodup_nil, (fun _ z => nomatch z), st, (fun z => qu (qn_l z)), fun z => (qn_p z).elim⟩⟩
    refine ⟨valV kvs k, DGet.k hH, ?_⟩
    rcases rt.find (k := k) with ⟨f1, f2⟩ | ⟨u, d, f1, f2, ru⟩
    · rw [f2]
      rw [f1] at h
      exact h _ _ (fin r2)
    · rw [f2]
      rw [f1] at h
      exact h _ _ (fin ru)
theorem putk_ (s : Nat) {x : Str} (hu : X.A.units + 65 < cLine) (hi : SE X g i) (he : SE X f e) (hN : X.N[s]? = some x := by rfl) (hv : Vis X.env.scope x := by first | exact Or.inl rfl | exact Or.inr (Or.inl rfl) | exact Or.inr (Or.inr rfl)) (hs : swapsWith e (some (.Subscript (.Name x px) i tpos)) pos.line X.env = pure false := by rfl) (hd : (x == ("__debug__" : Str)) = false := by decide) (hcd : (x == ("__classdict__" : Str)) = false := by decide) :
    SS X io (dPutK s g f) (.Assign [.Subscript (.Name x px) i tpos] e pos) := ss_putK (by omega) hN hv hi he hs hd hcd
theorem get2_ (s : Nat) {x : Str} {e2 : Expr} {apos cpos : Pos} (hu : X.A.units + 65 < cLine) (hf : SE X f e) (hg : SE X g e2) (hN : X.N[s]? = some x := by rfl) (hv : Vis X.env.scope x := by first | exact Or.inl rfl | exact Or.inr (Or.inl rfl) | exact Or.inr (Or.inr rfl)) (hd : (x == ("__debug__" : Str)) = false := by decide) (hcd : (x == ("__classdict__" : Str)) = false := by decide)
    (m : M2 X (.Name x px) "get" apos e e2 cpos := by exact ⟨rfl, rfl, rfl, rfl⟩) (hs : starEach [e, e2] X.env = (false, eval e X.env) :: starEach [e2] X.env := by rfl) (hs2 : starEach [e2] X.env = (false, eval e2 X.env) :: starEach [] X.env := by rfl) :
    SE X (dGet2 s f g) (.Call (.Attribute (.Name x px) "get" apos) [e, e2] [] cpos) := se_get2 (by omega) hN hv hf hg hd hcd m hs hs2
end
end Q

set_option Elab.async false
set_option linter.all false
set_option maxRecDepth 100000
set_option maxHeartbeats 4000000
/-! a, b = (c, d) for names of any kind. -/
namespace Q
open PySem PySem.Spec PyProof.Rows L2
theorem RM.unTup {K : PySem.W.Frag} {H : Hp} {G : Addr → Prop} {v : V} {ms : List M} {F : List Addr} (r : RM K H G v (mkTup ms) F) : ∃ a xs, v = .ref a ∧ SqN K H a xs ∧ RMs K H G xs ms F := by
  unfold mkTup at r
  cases e : leaves ms with
  | none =>
    rw [e] at r
    cases r with
    | tup h rs => exact ⟨_, _, rfl, h, rs⟩
  | some ds =>
    rw [e] at r
    obtain ⟨r1, rfl⟩ := r.fzD
    cases r1 with
    | tup h rs =>
      have hms : ms = ds.map M.fz := by
        clear r h rs
        induction ms generalizing ds with
        | nil => unfold leaves at e; cases e; rfl
        | cons m ms ih =>
          cases m with
          | fz d =>
            unfold leaves at e
            obtain ⟨ds', h1, rfl⟩ := Option.map_eq_some_iff.mp e
            rw [ih _ h1]; rfl
          | lst _ => unfold leaves at e; cases e
          | tup _ => unfold leaves at e; cases e
          | dK _ _ => unfold leaves at e; cases e
          | dT _ _ => unfold leaves at e; cases e
      rw [hms]
      exact ⟨_, _, rfl, h, rs.tms⟩
section
variable {X : Cx} {io : Nat → Bool} {f g : Ev → Res} {pos : Pos}
theorem ss_par2 {i j : Nat} {x y : Str} {c d : Expr} {px py pt : Pos} {kt k2 pt2} (hc : X.calm = true) (hN : X.N.Nodup) (ha : SA X (evs [f, g]) [c, d]) (hi : X.N[i]? = some x := by rfl) (hj : X.N[j]? = some y := by rfl)
    (hx : Loc X.env.scope x := by first | exact Or.inl rfl | exact Or.inr rfl) (hy : Loc X.env.scope y := by first | exact Or.inl rfl | exact Or.inr rfl)
    (fx : X.fn x = true ∨ X.env.scope.names.lookup x = some .local := by first | exact .inl rfl | exact .inr rfl | assumption) (fy : X.fn y = true ∨ X.env.scope.names.lookup y = some .local := by first | exact .inl rfl | exact .inr rfl | assumption)
    (hio : io i = false := by rfl) (hjo : io j = false := by rfl)
    (hs : swapsWithSole [.Tuple [.Name x px, .Name y py] kt pt] (.Tuple [c, d] k2 pt2) pos.line X.env = pure false := by rfl) (hw : swappedStores [.Tuple [.Name x px, .Name y py] kt pt] (.Tuple [c, d] k2 pt2) X.env = pure none := by rfl)
    (h1 : (assignEach [.Tuple [.Name x px, .Name y py] kt pt] X.env).map (·.2) = [assign (.Tuple [.Name x px, .Name y py] kt pt) X.env] := by rfl) (hn : (assignEach [.Name x px, .Name y py] X.env).length = 2 := by rfl) (hst : (assignEach [.Name x px, .Name y py] X.env).findIdx? (·.1) = none := by rfl)
    (e1 : (assignEach [.Name x px, .Name y py] X.env).map (·.2) = assign (.Name x px) X.env :: (assignEach [.Name y py] X.env).map (·.2) := by rfl) (e2 : (assignEach [.Name y py] X.env).map (·.2) = assign (.Name y py) X.env :: (assignEach [] X.env).map (·.2) := by rfl) :
    SS X io (dPar i j f g) (.Assign [.Tuple [.Name x px, .Name y py] kt pt] (.Tuple [c, d] k2 pt2) pos) := fun W tk => PS.imp (ps_asg ((tup_ ha : SE X (dTup [f, g]) (.Tuple [c, d] k2 pt2)) W tk) (pg_tup hc (pgs_cons (pg_name hN hi hx fx) (pgs_cons (pg_name hN hj hy fy) pgs_nil e2) e1) hn hst) hs hw h1) fun D σ H ⟨Z, O, env, I, h⟩ => by
  refine ⟨Z, O, env, I, ?_⟩
  unfold dPar at h
  split at h
  · rename_i m n e1 q ef
    have et : dTup [f, g] env = .ok (.own (mkTup [m, n])) e1 q.n := by
      unfold dTup dF
      rw [ef]
      rfl
    rw [et]
    split at h
    · rename_i hl
      intro v H' p
      obtain ⟨O', F, I', r, nd, nz, st⟩ := p.own1
      obtain ⟨a, xs, rfl, hq, rs⟩ := r.unTup
      cases rs with
      | cons r1 rr =>
        cases rr with
        | cons r2 rr =>
          cases rr
          rw [List.append_nil] at *
          obtain ⟨O2, I2, st2, gg⟩ := I'.put2 hl.1 r1 nd nz st
          obtain ⟨O3, I3, st3⟩ := I2.put (i := j) (by rw [List.length_set]; exact hl.2) (r2.imp gg) (List.nodup_append.mp nd).2.1 (fun a ha => nz a (List.mem_append_right _ ha)) st2
          exact ⟨a, _, rfl, hq.t, rfl, _, _, rfl, _, _, rfl, rfl, h _ _ ⟨⟨O3, I3, st3⟩, (Held.set hio).trans (Held.set hjo)⟩⟩
    · exact h.elim
  · exact h.elim
  · rename_i c e1 ef
    have et : dTup [f, g] env = .exn c e1 := by
      unfold dTup dF
      rw [ef]
    rw [et]
    exact EndS.exn h
  · exact h.elim
end
end Q

set_option Elab.async false
set_option linter.all false
set_option maxRecDepth 100000
set_option maxHeartbeats 4000000
/-! List comprehensions with two walks. -/
namespace Q
open PySem PySem.Spec PyProof.Rows L2

def runC2 (p : Tg) (t src : Ev → Res) (p1 : Tg) (t1 f : Ev → Res) (vs vs1 : List Nat) : List PyData → Ev → Option (List M × Ev × Ql)
  | [], env => some ([], env, .p)
  | d :: ds, env => match p d env with
    | none => none
    | some e1 => match t e1 with
      | .ok (.own (.fz (.bool b))) e2 q1 => (match b with
        | true => (match src e2 with
          | .ok (.own (.fz (.list ds1))) e3 q2 => (runC p1 t1 f vs1 ds1 (wipeE e3 vs1)).bind fun r1 =>
            (runC2 p t src p1 t1 f vs vs1 ds (wipeE r1.2.1 vs)).map fun r => (r1.1 ++ r.1, r.2.1, ((q1.j q2).j r1.2.2).j r.2.2)
          | _ => none)
        | false => (runC2 p t src p1 t1 f vs vs1 ds (wipeE e2 vs)).map fun r => (r.1, r.2.1, q1.j r.2.2))
      | _ => none
def dLc2 (p : Tg) (src t : Ev → Res) (p1 : Tg) (src1 t1 f : Ev → Res) (vs vs1 : List Nat) : Ev → Res := fun env => match src env with
  | .ok (.own (.fz (.list ds))) e q => if vs.all (calmAt e) = true then (match runC2 p t src1 p1 t1 f vs vs1 ds (wipeE e vs) with
    | some r => if r.1.length ≤ SZ then .ok (.own (.lst r.1)) (restE r.2.1 e vs) (q.j r.2.2).n else .stuck
    | none => .stuck) else .stuck
  | .ok _ _ _ => .stuck
  | .exn c e => .exn c e
  | .stuck => .stuck
section
variable {K : PySem.W.Frag} {mg : Str → Option Value} {H H' H0 H1 H2 H3 : Hp} {G G' Gv Gv' : Addr → Prop} {O O' O0 O1 O2 F F' F1 F2 : List Addr} {Z : Addr → Prop} {env env1 env2 e2 : Ev} {σ σ1 σ' : L2.St} {vs vs1 : List Nat} {S S1 : (Addr → Prop) → Hp → Prop} {D : Addr} {ms : List M} {q2 : Ql}
/-- the state ahead of a turn, the turns not counted -/
structure LcT (K : PySem.W.Frag) (Z : Addr → Prop) (O0 : List Addr) (H0 : Hp) (D : Addr) (S : (Addr → Prop) → Hp → Prop) (σw : L2.St) (vs : List Nat) (H : Hp) (e : Ev) (ms : List M) (q : Ql) : Prop where
  ex : ∃ O acc F, SI K (Zp Z (D :: F)) O e σw H ∧ H D = some (.lst acc) ∧ RMs K H (fun a => ¬ Z a ∧ a ∉ O ∧ a ∉ D :: F) acc ms F ∧ F.Nodup ∧ D ∉ F ∧ (∀ a ∈ D :: F, ¬ Z a) ∧ Step O0 H0 O (D :: F) H ∧ S (fun a => ¬ Zp Z (D :: F) a ∧ a ∉ O) H
  em : vs.all (emptyAt e) = true
  qu : q ≠ .l → Quiet H0 H ∧ H0 D = none
def KeepS (S : (Addr → Prop) → Hp → Prop) : Prop := ∀ {H H' : Hp} {G G' : Addr → Prop} {O : List Addr}, S G H → OM H O → (∀ a, G a → a ∉ O) → (∀ a o, a ∉ O → H a = some o → H' a = some o) → (∀ a o, G a → H a = some o → G' a) → S G' H'
theorem KeepS.and (k : KeepS S) (k1 : KeepS S1) : KeepS (fun G H => S G H ∧ S1 G H) := fun s om go fr gg => ⟨k s.1 om go fr gg, k1 s.2 om go fr gg⟩
theorem Lc.same2 {acc : List V} {e3 : Ev} {H3 : Hp} {O3 : List Addr} (I : SI K (Zp Z (D :: F)) O env σ1 H) (hD : H D = some (.lst acc)) (rm : RMs K H (fun a => ¬ Z a ∧ a ∉ O ∧ a ∉ D :: F) acc ms F) (nD : D ∉ F) (nz : ∀ a ∈ D :: F, ¬ Z a) (st : Step O0 H0 O (D :: F) H)
    (st3 : Step O H O3 [] H3) (I3 : SI K (Zp Z (D :: F)) O3 e3 σ H3) :
    H3 D = some (.lst acc) ∧ ∃ O5, SI K (Zp Z (D :: F)) O5 (wipeE e3 vs) (L2.wipe σ vs) H3 ∧ RMs K H3 (fun a => ¬ Z a ∧ a ∉ O5 ∧ a ∉ D :: F) acc ms F ∧ Step O0 H0 O5 (D :: F) H3 ∧ (∀ a o, a ∉ O → H a = some o → H3 a = some o ∧ a ∉ O5) ∧ ∀ a ∈ O5, a ∈ O3 := by
  have DO : D ∉ O := fun z => I.nz D z (.inr List.mem_cons_self)
  obtain ⟨hD3, DO3, _⟩ := st3.keep D _ DO hD
  obtain ⟨O5, I5, sub⟩ := I3.wipe vs
  have FO : ∀ a ∈ F, a ∉ O := fun a ha z => I.nz a z (.inr (List.mem_cons_of_mem _ ha))
  refine ⟨hD3, O5, I5, rm.step I.om (fun a g => g.2.1) FO (fun a o n e => (st3.keep a o n e).1) fun a o g e => ⟨g.1, fun z => (st3.keep a o g.2.1 e).2.1 (sub a z), g.2.2⟩, ⟨fun a o n e => ?_⟩, fun a o n e => ⟨(st3.keep a o n e).1, fun z => (st3.keep a o n e).2.1 (sub a z)⟩, sub⟩
  obtain ⟨ea, na, fa⟩ := st.keep a o n e
  obtain ⟨eb, nb, _⟩ := st3.keep a o na ea
  exact ⟨eb, fun z => nb (sub a z), fa⟩
theorem OM.cons {acc : List V} (h : OM H O) (hD : H D = some (.lst acc)) : OM H (D :: O) := fun b hb => by
  rcases List.mem_cons.mp hb with z | z
  · rw [z, hD]; exact ⟨fun xs z => (by cases z), fun o u z => (by cases z)⟩
  · exact h b z
/-- one turn of a comprehension's walk -/
theorem lc_turn {p : Tg} {t f : Ev → Res} {d : PyData} {rest : List PyData} {r2 : List M × Ev × Ql} {x : V} {Nx : Hp → Prop} (l2 : LcT K Z O H D S (L2.wipe σ vs) vs H2 e2 ms q2) (ks : KeepS S) (er2 : runC p t f vs (d :: rest) e2 = some r2) (hsz : (ms ++ r2.1).length ≤ SZ)
    (y : ∀ G, S G H2 → (∀ a o, H2 a = some o → H3 a = some o) ∧ RF K H3 G x d)
    (hN : ∀ H' e' ms' q' r', LcT K Z O H D S (L2.wipe σ vs) vs H' e' ms' q' → runC p t f vs rest e' = some r' → ms' ++ r'.1 = ms ++ r2.1 → r'.2.1 = r2.2.1 → q'.j r'.2.2 = q2.j r2.2.2 → Nx H') :
    TUG K (fun i => !vs.contains i) true p x (L2.wipe σ vs) H3 fun σ4 H4 => L2.wipe σ4 vs = L2.wipe σ vs ∧ TUT K mg (fun _ _ _ _ => False) t σ4 H4 fun b H5 =>
      if b = true then TU K mg (fun _ _ _ _ => False) f σ4 H5 fun v H6 => ∃ acc, H6 D = some (.lst acc) ∧ acc.length < sizeLine ∧ Nx (upd H6 D (.lst (acc ++ [v]))) else Nx H5 := by
  obtain ⟨O2, acc, F, I2, hD2, rm, nd, nD, nz, st, s2⟩ := l2.ex
  have hal : acc.length = ms.length := rm.two
  obtain ⟨gr, rf⟩ := y _ s2
  have I3 := I2.grow gr
  have st3 : Step O2 H2 O2 [] H3 := ⟨fun a o n e => ⟨gr a o e, n, fun z => nomatch z⟩⟩
  unfold runC at er2
  refine ⟨Zp Z (D :: F), O2, e2, d, I3, rf, ?_⟩
  cases ep : p d e2 with
  | none => simp only [ep] at er2; cases er2
  | some e4 =>
    simp only [ep] at er2
    intro σ4 H4 p4 qu4
    have qu4 := qu4 rfl
    obtain ⟨O4, I4, st4⟩ := p4.ex
    have hw : L2.wipe σ4 vs = L2.wipe σ vs := wipe_held p4.io
    refine ⟨hw, Zp Z (D :: F), O4, e4, I4, ?_⟩
    have st34 : Step O2 H2 O4 [] H4 := st3.tr0 st4
    have q34 : Quiet H2 H4 := fun a o e => qu4 a o (gr a o e)
    have sz : SZ = 16777216 := rfl
    have omD2 : OM H2 (D :: O2) := I2.om.cons hD2
    cases et : t e4 with
    | stuck => simp only [et] at er2; cases er2
    | exn c e5 => simp only [et] at er2; cases er2
    | ok xt e5 q5 =>
      simp only [et] at er2
      split at er2
      · rename_i b e5' q5' heq
        cases heq
        refine ⟨b, rfl, fun H5 p5 => ?_⟩
        obtain ⟨O5, I5, st5⟩ := p5.to
        have qu5 : q5 ≠ .l → Quiet H4 H5 := by obtain ⟨_, _, _, _, _, _, _, qu, _⟩ := p5.ex; exact qu
        have st25 : Step O2 H2 O5 [] H5 := st34.tr0 st5
        cases b with
        | false =>
          simp only [] at er2
          obtain ⟨r3, er3, rfl⟩ := Option.map_eq_some_iff.mp er2
          obtain ⟨hD5, O6, I6, rm6, st6, k6⟩ := Lc.same (vs := vs) I2 hD2 rm nD nz st st25 I5
          rw [hw] at I6
          refine iteF (hN _ _ ms (q2.j q5) r3 ⟨⟨O6, acc, F, I6, hD5, rm6, nd, nD, nz, st6, ?_⟩, wipeE_empty _ _, fun z => ⟨fun a o e => qu5 (qj_l z).2 a o (q34 a o ((l2.qu (qj_l z).1).1 a o e)), (l2.qu (qj_l z).1).2⟩⟩ er3 rfl rfl ?_)
          · refine ks s2 omD2 (fun a g hb => ?_) (fun a o n e => (k6 a o (fun z => n (List.mem_cons_of_mem _ z)) e).1) fun a o g e => ⟨g.1, (k6 a o g.2 e).2⟩
            rcases List.mem_cons.mp hb with z | z
            · exact g.1 (.inr (by rw [z]; exact List.mem_cons_self))
            · exact g.2 z
          · exact (ql_assoc _ _ _)
        | true =>
          simp only [] at er2
          refine iteT ⟨Zp Z (D :: F), O5, e5, I5, ?_⟩
          cases ef : f e5 with
          | stuck => simp only [ef] at er2; cases er2
          | exn c e6 => simp only [ef] at er2; cases er2
          | ok xf e6 q6 =>
            simp only [ef] at er2
            cases xf with
            | vw m => cases er2
            | own m =>
              simp only [] at er2
              obtain ⟨r3, er3, rfl⟩ := Option.map_eq_some_iff.mp er2
              intro v H6 p6
              have qu6 : q6 ≠ .l → Quiet H5 H6 := by obtain ⟨_, _, _, _, _, _, _, qu, _⟩ := p6.ex; exact qu
              obtain ⟨hD6, O7, F2, I7, rm7, nd7, nD7, nz7, st7, k7⟩ := Lc.add (vs := vs) I2 hD2 rm nd nD nz st st25 p6
              rw [hw] at I7
              refine ⟨acc, hD6, by rw [sizeLine_eq]; simp at hsz; omega, hN _ _ (ms ++ [m]) (q2.j (q5.j q6)) r3 ⟨⟨O7, acc ++ [v], F ++ F2, I7, upd_same, rm7, nd7, nD7, nz7, st7, ?_⟩, wipeE_empty _ _, fun z => ⟨fun a o e => ?_, (l2.qu (qj_l z).1).2⟩⟩ er3 (by simp) rfl ?_⟩
              · refine ks s2 omD2 (fun a g hb => ?_) (fun a o n e => (k7 a o (fun z => n (List.mem_cons_of_mem _ z)) (fun z => n (by rw [z]; exact List.mem_cons_self)) e).1) fun a o g e => ?_
                · rcases List.mem_cons.mp hb with z | z
                  · exact g.1 (.inr (by rw [z]; exact List.mem_cons_self))
                  · exact g.2 z
                · have ne : a ≠ D := fun z => g.1 (.inr (by rw [z]; exact List.mem_cons_self))
                  obtain ⟨_, n1, n2⟩ := k7 a o g.2 ne e
                  refine ⟨fun z => ?_, n1⟩
                  rcases z with z | z
                  · exact g.1 (.inl z)
                  · rcases List.mem_cons.mp z with z | z
                    · exact ne z
                    · rcases List.mem_append.mp z with z | z
                      · exact g.1 (.inr (List.mem_cons_of_mem _ z))
                      · exact n2 z
              · have hq := qj_l z
                have hq2 := qj_l hq.2
                have ne : a ≠ D := fun w => by rw [w, (l2.qu hq.1).2] at e; cases e
                rw [upd_ne ne]
                exact qu6 hq2.2 a o (qu5 hq2.1 a o (q34 a o ((l2.qu hq.1).1 a o e)))
              · exact (ql_assoc _ _ _)
      · cases er2
theorem wipe_sub {vs vs1 : List Nat} (h : ∀ i ∈ vs1, i ∈ vs) {τ τ' : L2.St} (e : L2.wipe τ vs1 = L2.wipe τ' vs1) : L2.wipe τ vs = L2.wipe τ' vs := by
  have out : ∀ {τ : L2.St} {i : Nat} {ws : List Nat}, i ∉ ws → (L2.wipe τ ws)[i]? = τ[i]? := L2.wipe_out
  have hl : τ.length = τ'.length := by
    have := congrArg List.length e
    rw [L2.wipe_length, L2.wipe_length] at this
    exact this
  have inn : ∀ {τ : L2.St} {i : Nat} {ws : List Nat}, i ∈ ws → i < τ.length → (L2.wipe τ ws)[i]? = some none := by
    intro τ i ws
    induction ws with
    | nil => intro h; cases h
    | cons w ws ih =>
      intro h hl
      unfold L2.wipe
      by_cases hw : w = i
      · subst hw
        rw [List.getElem?_set_self (by rw [L2.wipe_length]; exact hl)]
      · rw [List.getElem?_set_ne hw]
        rcases List.mem_cons.mp h with h | h
        · exact absurd h.symm hw
        · exact ih h hl
  apply List.ext_getElem?
  intro i
  by_cases hi : i ∈ vs
  · by_cases hlt : i < τ.length
    · rw [inn hi hlt, inn hi (by omega)]
    · rw [List.getElem?_eq_none (by rw [L2.wipe_length]; omega), List.getElem?_eq_none (by rw [L2.wipe_length]; omega)]
  · have hi1 : i ∉ vs1 := fun z => hi (h i z)
    rw [out hi, out hi, ← out hi1 (τ := τ), e, out hi1]
theorem tu_lc2 {W : WX} {p p1 : Tg} {src t f src1 t1 : Ev → Res} {Q : VK} (hv : ∀ i ∈ vs1, i ∈ vs) (h : TU K mg W (dLc2 p src t p1 src1 t1 f vs vs1) σ H Q) :
    tLc2 (TUI K mg W src) (TUG K (fun i => !vs.contains i) true p) (TUT K mg (fun _ _ _ _ => False) t) (TUI K mg (fun _ _ _ _ => False) src1) (TUG K (fun i => !vs1.contains i) true p1) (TUT K mg (fun _ _ _ _ => False) t1) (TU K mg (fun _ _ _ _ => False) f) vs vs1 σ H Q := by
  obtain ⟨Z, O, env, I, h⟩ := h
  refine ⟨Z, O, env, I, ?_⟩
  unfold dLc2 at h
  cases es : src env with
  | stuck => rw [es] at h; exact h.elim
  | exn c e1 => rw [es] at h; exact h
  | ok x e1 q =>
    rw [es] at h
    cases x with
    | vw m => exact h.elim
    | own m =>
      cases m with
      | lst _ => exact h.elim
      | tup _ => exact h.elim
      | dK _ _ => exact h.elim
      | dT _ _ => exact h.elim
      | fz d =>
        cases d with
        | none => exact h.elim
        | bool _ => exact h.elim
        | int _ => exact h.elim
        | dict _ => exact h.elim
        | str _ => exact h.elim
        | tuple _ => exact h.elim
        | list ds =>
          by_cases em : vs.all (calmAt e1) = true
          · simp only [if_pos em] at h
            intro J H1 O1' S0 I1' st1' qu1 hlen L0 s0 D hD
            obtain ⟨O1, I1, subO⟩ := I1'.wipe vs
            have st1 : Step O H O1 [] H1 := ⟨fun a o n e => let ⟨e2, n2, _⟩ := st1'.keep a o n e; ⟨e2, fun z => n2 (subO a z), fun z => nomatch z⟩⟩
            obtain ⟨S, hS⟩ : ∃ S, S = fun (G : Addr → Prop) (H : Hp) => S0 G H ∧ Stash K σ e1 vs G H := ⟨_, rfl⟩
            have L : Live K J ds S := by rw [hS]; exact L0.stash
            have s1 : S (fun a => ¬ Z a ∧ a ∉ O1) H1 := by
              rw [hS]
              exact (L0.stash (σ := σ) (e := e1) (vs := vs)).keep (G := fun a => ¬ Z a ∧ a ∉ O1') ⟨s0, I1'.stash (vs := vs)⟩ (O := []) (fun _ z => nomatch z) (fun _ _ z => nomatch z) (fun a o _ e => e) fun a o g _ => ⟨g.1, fun z => g.2 (subO a z)⟩
            have ks : KeepS S := L.keep
            cases er : runC2 p t src1 p1 t1 f vs vs1 ds (wipeE e1 vs) with
            | none => simp only [er] at h
            | some r =>
              simp only [er] at h
              by_cases hsz : r.1.length ≤ SZ
              · rw [if_pos hsz] at h
                have kD := upd_keep (o := HO.lst []) hD
                have hO1 : D ∉ O1 := fun z => by
                  obtain ⟨o, e, _⟩ := I1.owd D z
                  rw [hD] at e; cases e
                have hZ : ¬ Z D := fun z => by
                  obtain ⟨o, e⟩ := I1.zt D z
                  rw [hD] at e; cases e
                have omD : OM H1 [D] := fun b hb => by
                  rw [List.mem_singleton.mp hb, hD]
                  exact ⟨fun xs z => (by cases z), fun o u z => (by cases z)⟩
                obtain ⟨Pv, hPv⟩ : ∃ Pv : Nat → Hp → Prop, Pv = fun i H' => ∃ e' ms q', ∃ r', LcT K Z O H D S (L2.wipe σ vs) vs H' e' ms q' ∧ runC2 p t src1 p1 t1 f vs vs1 (ds.drop i) e' = some r' ∧ ms ++ r'.1 = r.1 ∧ r'.2.1 = r.2.1 ∧ q'.j r'.2.2 = q.j r.2.2 := ⟨_, rfl⟩
                have P0 : Pv 0 (upd H1 D (.lst [])) := by
                  rw [hPv]
                  refine ⟨wipeE e1 vs, [], q, r, ⟨⟨O1, [], [], ?_, upd_same, .nil, List.Pairwise.nil, (fun z => nomatch z), fun a ha => ?_, ⟨fun a o n e => ?_⟩, ?_⟩, wipeE_empty _ _, fun z => ⟨fun a o e => kD a o (qu1 z a o e), by
                    cases e : H D with
                    | none => rfl
                    | some o => have := qu1 z D o e; rw [hD] at this; cases this⟩⟩, er, rfl, rfl, rfl⟩
                  · have I2 := I1
                    obtain ⟨Fs, sl, e5⟩ := I2.sl
                    refine ⟨⟨Fs, Slots.stepL.Slots.all (O := [D]) (G' := fun a => ¬ Zp Z [D] a ∧ a ∉ O1) (H := H1) ?_ omD (fun b g hb => ?_) (fun j Fj ej b hb hc => ?_) (fun a o _ e => kD a o e) (fun b g => g), e5⟩, I2.nd, fun a ha z => ?_, fun a z => ?_⟩
                    · have key : ∀ {env : Ev} {σ : L2.St} {Fs : List (List Addr)}, Slots K H1 (fun a => ¬ Z a ∧ a ∉ O1) env σ Fs → Slots K H1 (fun a => ¬ Zp Z [D] a ∧ a ∉ O1) env σ Fs := by
                        intro env σ Fs s
                        induction s with
                        | nil => exact .nil
                        | non _ ih => exact .non ih
                        | som h _ ih =>
                          refine .som (h.step (O := []) (fun _ z => nomatch z) (fun _ _ z => nomatch z) (fun _ _ z => nomatch z) (fun a o _ e => e) fun a o g e => ⟨fun z => ?_, g.2⟩) ih
                          rcases z with z | z
                          · exact g.1 z
                          · rw [List.mem_singleton.mp z, hD] at e; cases e
                      exact key sl
                    · rw [List.mem_singleton.mp hb] at g
                      exact g.1 (.inr List.mem_cons_self)
                    · rw [List.mem_singleton.mp hc] at hb
                      exact hO1 (by rw [← e5]; exact mem_flat_at ej hb)
                    · rcases z with z | z
                      · exact I1.nz a ha z
                      · rw [List.mem_singleton.mp z] at ha; exact hO1 ha
                    · rcases z with z | z
                      · exact (I1.zt a z).imp fun o e => kD a o e
                      · rw [List.mem_singleton.mp z]; exact ⟨_, upd_same⟩
                  · rw [List.mem_singleton.mp ha]; exact hZ
                  · obtain ⟨e2, n2, _⟩ := st1.keep a o n e
                    refine ⟨kD a o e2, n2, fun z => ?_⟩
                    rw [List.mem_singleton.mp z, hD] at e2; cases e2
                  · refine L.keep s1 (O := []) (fun _ z => nomatch z) (fun _ _ z => nomatch z) (fun a o _ e => kD a o e) fun a o g e => ⟨fun z => ?_, g.2⟩
                    rcases z with z | z
                    · exact g.1 z
                    · rw [List.mem_singleton.mp z, hD] at e; cases e
                refine ⟨fun i m H' => m = ds.length - i ∧ i ≤ ds.length ∧ Pv i H', ⟨ds.length, by simp, Nat.zero_le _, P0⟩, ?_⟩
                rintro i m H2 ⟨rfl, hi, pv⟩
                have pv2 := pv
                rw [hPv] at pv
                obtain ⟨e2, ms, q2, r2, l2, er2, em1, em2, em3⟩ := pv
                obtain ⟨O2, acc, F, I2, hD2, rm, nd, nD, nz, st, s2⟩ := l2.ex
                by_cases hlt : i < ds.length
                · refine .inr ⟨L.goes i H2 _ hlt s2, Pv (i + 1), fun H' p' => ⟨ds.length - (i + 1), by omega, rfl, hlt, p'⟩, fun x H3 y => ?_⟩
                  obtain ⟨gr, rf⟩ := L.yields i H2 x H3 _ ds[i] (List.getElem?_eq_getElem hlt) s2 y
                  have I3 := I2.grow gr
                  have st3 : Step O2 H2 O2 [] H3 := ⟨fun a o n e => ⟨gr a o e, n, fun z => nomatch z⟩⟩
                  rw [List.drop_eq_getElem_cons hlt] at er2
                  unfold runC2 at er2
                  refine ⟨Zp Z (D :: F), O2, e2, ds[i], I3, rf, ?_⟩
                  cases ep : p ds[i] e2 with
                  | none => simp only [ep] at er2; cases er2
                  | some e4 =>
                    simp only [ep] at er2
                    intro σ4 H4 p4 qu4
                    have qu4 := qu4 rfl
                    obtain ⟨O4, I4, st4⟩ := p4.ex
                    have hw : L2.wipe σ4 vs = L2.wipe σ vs := wipe_held p4.io
                    refine ⟨hw, Zp Z (D :: F), O4, e4, I4, ?_⟩
                    have st34 : Step O2 H2 O4 [] H4 := st3.tr0 st4
                    have q34 : Quiet H2 H4 := fun a o e => qu4 a o (gr a o e)
                    have omD2 : OM H2 (D :: O2) := I2.om.cons hD2
                    cases et : t e4 with
                    | stuck => simp only [et] at er2; cases er2
                    | exn c e5 => simp only [et] at er2; cases er2
                    | ok xt e5 q5 =>
                      simp only [et] at er2
                      split at er2
                      · rename_i b e5' q5' heq
                        cases heq
                        refine ⟨b, rfl, fun H5 p5 => ?_⟩
                        obtain ⟨O5, I5, st5⟩ := p5.to
                        have qu5 : q5 ≠ .l → Quiet H4 H5 := by obtain ⟨_, _, _, _, _, _, _, qu, _⟩ := p5.ex; exact qu
                        have st25 : Step O2 H2 O5 [] H5 := st34.tr0 st5
                        cases b with
                        | false =>
                          simp only [] at er2
                          obtain ⟨r3, er3, rfl⟩ := Option.map_eq_some_iff.mp er2
                          obtain ⟨hD5, O6, I6, rm6, st6, k6⟩ := Lc.same (vs := vs) I2 hD2 rm nD nz st st25 I5
                          rw [hw] at I6
                          refine iteF ?_
                          rw [hPv]
                          refine ⟨_, ms, q2.j q5, r3, ⟨⟨O6, acc, F, I6, hD5, rm6, nd, nD, nz, st6, ?_⟩, wipeE_empty _ _, fun z => ⟨fun a o e => qu5 (qj_l z).2 a o (q34 a o ((l2.qu (qj_l z).1).1 a o e)), (l2.qu (qj_l z).1).2⟩⟩, er3, em1, em2, ?_⟩
                          · refine L.keep s2 omD2 (fun a g hb => ?_) (fun a o n e => (k6 a o (fun z => n (List.mem_cons_of_mem _ z)) e).1) fun a o g e => ⟨g.1, (k6 a o g.2 e).2⟩
                            rcases List.mem_cons.mp hb with z | z
                            · exact g.1 (.inr (by rw [z]; exact List.mem_cons_self))
                            · exact g.2 z
                          · rw [← em3]; exact (ql_assoc _ _ _)
                        | true =>
                          simp only [] at er2
                          refine iteT ⟨Zp Z (D :: F), O5, e5, I5, ?_⟩
                          cases es1 : src1 e5 with
                          | stuck => simp only [es1] at er2; cases er2
                          | exn c e6 => simp only [es1] at er2; cases er2
                          | ok x1 e6 q6 =>
                            simp only [es1] at er2
                            split at er2
                            · rename_i ds1 e6' q6' heq
                              cases heq
                              simp only []
                              obtain ⟨r1, er1, er2⟩ := Option.bind_eq_some_iff.mp er2
                              obtain ⟨r3, er3, rfl⟩ := Option.map_eq_some_iff.mp er2
                              intro J1 H6 O6 S1 I6 st6 qu6 hlen1 L1 s1
                              obtain ⟨hD7, O7, I7, rm7, st7, k7, sub7⟩ := Lc.same2 (vs := vs1) I2 hD2 rm nD nz st (st25.tr0 st6) I6
                              have ks1 : KeepS S1 := L1.keep
                              obtain ⟨Pw, hPw⟩ : ∃ Pw : Nat → Hp → Prop, Pw = fun j H' => ∃ e' ms' q', ∃ r', LcT K Z O H D (fun G H => S G H ∧ S1 G H) (L2.wipe σ4 vs1) vs1 H' e' ms' q' ∧ runC p1 t1 f vs1 (ds1.drop j) e' = some r' ∧ ms' ++ r'.1 = ms ++ r1.1 ∧ r'.2.1 = r1.2.1 ∧ q'.j r'.2.2 = (q2.j (q5.j q6)).j r1.2.2 := ⟨_, rfl⟩
                              have W0' : Pw 0 H6 := by
                                rw [hPw]
                                refine ⟨wipeE e6 vs1, ms, q2.j (q5.j q6), r1, ⟨⟨O7, acc, F, I7, hD7, rm7, nd, nD, nz, st7, ?_, ?_⟩, wipeE_empty _ _, fun z => ⟨fun a o e => qu6 (qj_l (qj_l z).2).2 a o (qu5 (qj_l (qj_l z).2).1 a o (q34 a o ((l2.qu (qj_l z).1).1 a o e))), (l2.qu (qj_l z).1).2⟩⟩, er1, rfl, rfl, rfl⟩
                                · refine L.keep s2 omD2 (fun a g hb => ?_) (fun a o n e => (k7 a o (fun z => n (List.mem_cons_of_mem _ z)) e).1) fun a o g e => ⟨g.1, (k7 a o g.2 e).2⟩
                                  rcases List.mem_cons.mp hb with z | z
                                  · exact g.1 (.inr (by rw [z]; exact List.mem_cons_self))
                                  · exact g.2 z
                                · exact L1.keep s1 (O := []) (fun _ z => nomatch z) (fun _ _ z => nomatch z) (fun a o _ e => e) fun a o g e => ⟨g.1, fun z => g.2 (sub7 a z)⟩
                              refine ⟨fun j k H' => k = ds1.length - j ∧ j ≤ ds1.length ∧ Pw j H', ⟨ds1.length, by simp, Nat.zero_le _, W0'⟩, ?_⟩
                              rintro j k H7 ⟨rfl, hj, pw⟩
                              rw [hPw] at pw
                              obtain ⟨e', ms', q', r', l', er', ea', eb', ec'⟩ := pw
                              by_cases hjl : j < ds1.length
                              · obtain ⟨_, _, _, _, _, _, _, _, _, _, sa, sb⟩ := l'.ex
                                refine .inr ⟨L1.goes j H7 _ hjl sb, Pw (j + 1), fun H' p' => ⟨ds1.length - (j + 1), by omega, rfl, hjl, p'⟩, fun x1 H8 y1 => ?_⟩
                                rw [List.drop_eq_getElem_cons hjl] at er'
                                refine lc_turn l' (ks.and ks1) er' ?_ (fun G s => L1.yields j H7 x1 H8 G ds1[j] (List.getElem?_eq_getElem hjl) s.2 y1) fun H' e'' ms'' q'' r'' l'' er'' h1 h2 h3 => ?_
                                · rw [ea']
                                  have : (ms ++ (r1.1 ++ r3.1)).length ≤ SZ := by
                                    have e9 : ms ++ (r1.1 ++ r3.1) = r.1 := em1
                                    rw [e9]; exact hsz
                                  simp at this ⊢; omega
                                · rw [hPw]
                                  exact ⟨e'', ms'', q'', r'', l'', er'', h1.trans ea', h2.trans eb', h3.trans ec'⟩
                              · obtain ⟨O8, acc8, F8, I8, hD8, rm8, nd8, nD8, nz8, st8, sa, sb⟩ := l'.ex
                                have ej : j = ds1.length := by omega
                                subst ej
                                refine .inl ⟨L1.stops H7 _ sb, ?_⟩
                                rw [List.drop_length] at er'
                                cases er'
                                rw [List.append_nil] at ea'
                                obtain ⟨O9, I9, sub9⟩ := (SI.unvoid I8 l'.em).wipe vs
                                rw [hw] at I9
                                rw [hPv]
                                refine ⟨wipeE e' vs, ms', q', r3, ⟨⟨O9, acc8, F8, I9, hD8, rm8.imp fun a g => ⟨g.1, fun z => g.2.1 (sub9 a z), g.2.2⟩, nd8, nD8, nz8, ⟨fun a o n e => let ⟨e2, n2, f2⟩ := st8.keep a o n e; ⟨e2, fun z => n2 (sub9 a z), f2⟩⟩, ?_⟩, wipeE_empty _ _, fun z => l'.qu z⟩, ?_, ?_, em2, ?_⟩
                                · exact L.keep sa (O := []) (fun _ z => nomatch z) (fun _ _ z => nomatch z) (fun a o _ e => e) fun a o g e => ⟨g.1, fun z => g.2 (sub9 a z)⟩
                                · have eb'' : e' = r1.2.1 := eb'
                                  rw [eb'']; exact er3
                                · rw [ea', List.append_assoc]; exact em1
                                · have ec2 : q'.j .p = (q2.j (q5.j q6)).j r1.2.2 := ec'
                                  have e5 : q'.j Ql.p = q' := by cases q' <;> rfl
                                  rw [e5] at ec2
                                  rw [ec2, ← em3]
                                  show ((q2.j (q5.j q6)).j r1.2.2).j r3.2.2 = q2.j (((q5.j q6).j r1.2.2).j r3.2.2)
                                  exact (congrArg (·.j r3.2.2) (ql_assoc q2 (q5.j q6) r1.2.2)).trans (ql_assoc q2 _ _)
                            · cases er2
                      · cases er2
                · have ei : i = ds.length := by omega
                  subst ei
                  refine .inl ⟨L.stops H2 _ s2, ?_⟩
                  rw [List.drop_length] at er2
                  cases er2
                  rw [List.append_nil] at em1
                  subst em1
                  have em2 : e2 = r.2.1 := em2
                  have em3 : q2.j .p = q.j r.2.2 := em3
                  subst em2
                  subst hS
                  obtain ⟨O3, I3, sub3⟩ := I2.rest l2.em em s2.2
                  refine h _ H2 ⟨O3, D :: F, I3, ?_, List.nodup_cons.mpr ⟨nD, nd⟩, nz, ⟨fun a o n e => let ⟨e2, n2, f2⟩ := st.keep a o n e; ⟨e2, fun z => n2 (sub3 a z), f2⟩⟩, fun z => (l2.qu fun w => z ?_).1, fun z => (qn_p z).elim⟩
                  · have r9 : RMs K H2 (fun a => ¬ Z a ∧ a ∉ O3 ∧ a ∉ D :: F) acc r.1 F := rm.imp fun a g => ⟨g.1, fun z => g.2.1 (sub3 a z), g.2.2⟩
                    simpa using RVs.own (F := D :: F) (RM.lst hD2 r9) .nil
                  · rw [← em3, w]; rfl
              · rw [if_neg hsz] at h; exact h.elim
          · simp only [if_neg em] at h
end
section
variable {X : Cx} {io : Nat → Bool} {f g t src src1 t1 : Ev → Res} {p p1 : Tg} {elt tg iter e tg1 iter1 : Expr} {ifs ifs1 : List Expr} {scope : Scope} {own : List (Str × Nat)} {vs1 : List Nat} {pos spos : Pos}
theorem se_lc2 (hc : X.calm = true) (hN : X.N.Nodup) (hi : SIT X tg src iter) (ok : BlkOk X.N X.env.scope scope own) (hv : vs1.all (fun i => (ixs own).contains i) = true)
    (hg : ∀ (s : Shared) (H : Hp) (C : Addr) (cl : List (Str × Addr)) (fp : List Addr), SG (X.blk s H scope (compEnvC scope cl C X.env) fp) (offs own) true p tg)
    (ht : ∀ (s : Shared) (H : Hp) (C : Addr) (cl : List (Str × Addr)) (fp : List Addr), STs (X.blk s H scope (compEnvC scope cl C X.env) fp) t ifs)
    (hi1 : ∀ (s : Shared) (H : Hp) (C : Addr) (cl : List (Str × Addr)) (fp : List Addr), SIT (X.blk s H scope (compEnvC scope cl C X.env) fp) tg1 src1 iter1)
    (hg1 : ∀ (s : Shared) (H : Hp) (C : Addr) (cl : List (Str × Addr)) (fp : List Addr), SG (X.blk s H scope (compEnvC scope cl C X.env) fp) (fun i => !vs1.contains i) true p1 tg1)
    (ht1 : ∀ (s : Shared) (H : Hp) (C : Addr) (cl : List (Str × Addr)) (fp : List Addr), STs (X.blk s H scope (compEnvC scope cl C X.env) fp) t1 ifs1)
    (he : ∀ (s : Shared) (H : Hp) (C : Addr) (cl : List (Str × Addr)) (fp : List Addr), SE (X.blk s H scope (compEnvC scope cl C X.env) fp) f elt) (hs : ∀ x, foldedSetIterable iter X.env x = pure x := by intro _; rfl) (hs1 : ∀ env x, foldedSetIterable iter1 env x = pure x := by intro _ _; rfl) :
    SE X (dLc2 p src t p1 src1 t1 f (ixs own) vs1) (.ListComp elt [⟨tg, iter, ifs, 0⟩, ⟨tg1, iter1, ifs1, 0⟩] scope pos) := fun W tk =>
  have hv2 : ∀ i ∈ vs1, i ∈ ixs own := fun i hi => by
    have := List.all_eq_true.mp hv i hi
    simpa using this
  PE.imp (pe_lc2 (vs1 := vs1) (g := TUG X.K (offs own) true p) (tt := TUT X.K X.mg W0 t) (g1 := TUG X.K (fun i => !vs1.contains i) true p1) (tt1 := TUT X.K X.mg W0 t1) (wi1 := TUI X.K X.mg W0 src1) (te := TU X.K X.mg W0 f) hc hN (hi W tk) ok hv2 hg ht (fun s H C cl fp => hi1 s H C cl fp _ takes0) hg1 ht1 (fun s H C cl fp => he s H C cl fp _ takes0) hs hs1) fun σ H Q h => tu_lc2 hv2 h
theorem ss_setLc2 {i : Nat} {y : Str} {py : Pos} (hc : X.calm = true) (hN : X.N.Nodup) (hy : X.N[i]? = some y) (hyl : X.env.scope.names.lookup y = some .local)
    (hsw : swapsWith (.ListComp elt [⟨tg, iter, ifs, 0⟩, ⟨tg1, iter1, ifs1, 0⟩] scope pos) (some (.Name y py)) spos.line X.env = pure true) (hi : SIT X tg src iter) (ok : BlkOk X.N X.env.scope scope own) (hv : vs1.all (fun i => (ixs own).contains i) = true)
    (hg : ∀ (s : Shared) (H : Hp) (C : Addr) (cl : List (Str × Addr)) (fp : List Addr), SG (X.blk s H scope (compEnvC scope cl C X.env) fp) (offs own) true p tg)
    (ht : ∀ (s : Shared) (H : Hp) (C : Addr) (cl : List (Str × Addr)) (fp : List Addr), STs (X.blk s H scope (compEnvC scope cl C X.env) fp) t ifs)
    (hi1 : ∀ (s : Shared) (H : Hp) (C : Addr) (cl : List (Str × Addr)) (fp : List Addr), SIT (X.blk s H scope (compEnvC scope cl C X.env) fp) tg1 src1 iter1)
    (hg1 : ∀ (s : Shared) (H : Hp) (C : Addr) (cl : List (Str × Addr)) (fp : List Addr), SG (X.blk s H scope (compEnvC scope cl C X.env) fp) (fun i => !vs1.contains i) true p1 tg1)
    (ht1 : ∀ (s : Shared) (H : Hp) (C : Addr) (cl : List (Str × Addr)) (fp : List Addr), STs (X.blk s H scope (compEnvC scope cl C X.env) fp) t1 ifs1)
    (he : ∀ (s : Shared) (H : Hp) (C : Addr) (cl : List (Str × Addr)) (fp : List Addr), SE (X.blk s H scope (compEnvC scope cl C X.env) fp) f elt) (hio : io i = false := by rfl) (hs : ∀ x, foldedSetIterable iter X.env x = pure x := by intro _; rfl) (hs1 : ∀ env x, foldedSetIterable iter1 env x = pure x := by intro _ _; rfl) :
    SS X io (dSet i (dLc2 p src t p1 src1 t1 f (ixs own) vs1)) (.Assign [.Name y py] (.ListComp elt [⟨tg, iter, ifs, 0⟩, ⟨tg1, iter1, ifs1, 0⟩] scope pos) spos) := fun W tk =>
  have hv2 : ∀ i ∈ vs1, i ∈ ixs own := fun i hi => by
    have := List.all_eq_true.mp hv i hi
    simpa using this
  PS.imp (ps_setLc2 (vs1 := vs1) (g := TUG X.K (offs own) true p) (tt := TUT X.K X.mg W0 t) (g1 := TUG X.K (fun i => !vs1.contains i) true p1) (tt1 := TUT X.K X.mg W0 t1) (wi1 := TUI X.K X.mg W0 src1) (te := TU X.K X.mg W0 f) hc hN hy hyl hsw (hi W tk) ok hv2 hg ht (fun s H C cl fp => hi1 s H C cl fp _ takes0) hg1 ht1 (fun s H C cl fp => he s H C cl fp _ takes0) hs hs1) fun D σ H ⟨Z, O, env, I, h⟩ => by
    refine tu_lc2 hv2 ⟨Z, O, env, I, ?_⟩
    unfold dSet at h
    cases ef : dLc2 p src t p1 src1 t1 f (ixs own) vs1 env with
    | stuck => rw [ef] at h; exact h
    | exn c e1 => rw [ef] at h; exact EndS.exn h
    | ok y e1 q =>
      rw [ef] at h
      cases y with
      | vw m => exact h.elim
      | own m =>
        intro v H' p
        simp only [put1] at h
        split at h
        · rename_i hl
          obtain ⟨O', F, I', r, nd, nz, st⟩ := p.own1
          obtain ⟨O2, I2, st2⟩ := I'.put hl r nd nz st
          exact h _ _ ⟨⟨O2, I2, st2⟩, Held.set hio⟩
        · exact h.elim
theorem ss_setLc2F {i : Nat} {y : Str} {py : Pos} (hc : X.calm = true) (hN : X.N.Nodup) (hy : X.N[i]? = some y) (hyl : X.env.scope.names.lookup y = some .local)
    (hsw : swapsWith (.ListComp elt [⟨tg, iter, ifs, 0⟩, ⟨tg1, iter1, ifs1, 0⟩] scope pos) (some (.Name y py)) spos.line X.env = pure true) (hi : SIT X tg src iter) (ok : BlkOk X.N X.env.scope scope own) (hv : vs1.all (fun i => (ixs own).contains i) = true)
    (hg : ∀ (s : Shared) (H : Hp) (C : Addr) (cl : List (Str × Addr)) (fp : List Addr), SG (X.blk s H scope (compEnvC scope cl C X.env) fp) (offs own) true p tg)
    (ht : ∀ (s : Shared) (H : Hp) (C : Addr) (cl : List (Str × Addr)) (fp : List Addr), STs (X.blk s H scope (compEnvC scope cl C X.env) fp) t ifs)
    (hi1 : ∀ (s : Shared) (H : Hp) (C : Addr) (cl : List (Str × Addr)) (fp : List Addr), SIT (X.blk s H scope (compEnvC scope cl C X.env) fp) tg1 src1 iter1)
    (hg1 : ∀ (s : Shared) (H : Hp) (C : Addr) (cl : List (Str × Addr)) (fp : List Addr), SG (X.blk s H scope (compEnvC scope cl C X.env) fp) (fun i => !vs1.contains i) true p1 tg1)
    (ht1 : ∀ (s : Shared) (H : Hp) (C : Addr) (cl : List (Str × Addr)) (fp : List Addr), STs (X.blk s H scope (compEnvC scope cl C X.env) fp) t1 ifs1)
    (he : ∀ (s : Shared) (H : Hp) (C : Addr) (cl : List (Str × Addr)) (fp : List Addr), SE (X.blk s H scope (compEnvC scope cl C X.env) fp) f elt) (hio : io i = false := by rfl) (hs : ∀ x, foldedSetIterable iter X.env x = pure x := by intro _; rfl) (hs1 : ∀ env x, foldedSetIterable iter1 env x = pure x := by intro _ _; rfl) :
    SS X io (dSetF i (dLc2 p src t p1 src1 t1 f (ixs own) vs1)) (.Assign [.Name y py] (.ListComp elt [⟨tg, iter, ifs, 0⟩, ⟨tg1, iter1, ifs1, 0⟩] scope pos) spos) := fun W tk =>
  have hv2 : ∀ i ∈ vs1, i ∈ ixs own := fun i hi => by
    have := List.all_eq_true.mp hv i hi
    simpa using this
  PS.imp (ps_setLc2 (vs1 := vs1) (g := TUG X.K (offs own) true p) (tt := TUT X.K X.mg W0 t) (g1 := TUG X.K (fun i => !vs1.contains i) true p1) (tt1 := TUT X.K X.mg W0 t1) (wi1 := TUI X.K X.mg W0 src1) (te := TU X.K X.mg W0 f) hc hN hy hyl hsw (hi W tk) ok hv2 hg ht (fun s H C cl fp => hi1 s H C cl fp _ takes0) hg1 ht1 (fun s H C cl fp => he s H C cl fp _ takes0) hs hs1) fun D σ H ⟨Z, O, env, I, h⟩ => by
    refine tu_lc2 hv2 ⟨Z, O, env, I, ?_⟩
    unfold dSetF dSet dFr at h
    cases ef : dLc2 p src t p1 src1 t1 f (ixs own) vs1 env with
    | stuck => rw [ef] at h; exact h
    | exn c e1 => rw [ef] at h; exact EndS.exn h
    | ok y e1 q =>
      rw [ef] at h
      cases y with
      | vw m => exact h.elim
      | own m =>
        simp only [] at h
        intro v H' p
        cases ed : frz m with
        | none => simp only [ed] at h; exact h.elim
        | some d =>
          simp only [ed, put1] at h
          split at h
          · rename_i hl
            obtain ⟨O', F, I', r, nd, nz, st⟩ := (p.fr ed).own1
            obtain ⟨O2, I2, st2⟩ := I'.put hl r nd nz st
            exact h _ _ ⟨⟨O2, I2, st2⟩, Held.set hio⟩
          · exact h.elim
end
/-- the run, nothing changed by it -/
theorem runC2_q {p p1 : Tg} {t src t1 f : Ev → Res} {vs vs1 : List Nat} {env : Ev} (b : PyData → Bool) (g : PyData → List PyData) (b1 : PyData → PyData → Bool) (g1 : PyData → PyData → M) : ∀ {ds : List PyData}, (∀ d ∈ ds, ∃ e1, p d env = some e1 ∧ YQ t e1 (.own (.fz (.bool (b d)))) ∧ (b d = true → YQ src e1 (.own (.fz (.list (g d)))) ∧ wipeE e1 vs1 = e1 ∧
      ∀ d1 ∈ g d, ∃ e2, p1 d1 e1 = some e2 ∧ YQ t1 e2 (.own (.fz (.bool (b1 d d1)))) ∧ (b1 d d1 = true → YQ f e2 (.own (g1 d d1))) ∧ wipeE e2 vs1 = e1) ∧ wipeE e1 vs = env) →
    ∃ q, runC2 p t src p1 t1 f vs vs1 ds env = some ((ds.filter b).flatMap fun d => ((g d).filter (b1 d)).map (g1 d), env, q) ∧ q ≠ .l
  | [], _ => ⟨.p, rfl, by simp⟩
  | d :: ds, h => by
    obtain ⟨e1, h1, ⟨q1, h2, n1⟩, h3, h4⟩ := h d List.mem_cons_self
    obtain ⟨q, e, n⟩ := runC2_q b g b1 g1 (ds := ds) fun x hx => h x (List.mem_cons_of_mem _ hx)
    unfold runC2
    simp only [h1, h2]
    cases hb : b d with
    | true =>
      obtain ⟨⟨q3, h5, n3⟩, h6, h7⟩ := h3 hb
      obtain ⟨q4, h8, n4⟩ := runC_q (p := p1) (t := t1) (f := f) (vs := vs1) (env := e1) (b1 d) (g1 d) h7
      refine ⟨((q1.j q3).j q4).j q, ?_, jnl (jnl (jnl n1 n3) n4) n⟩
      simp only [h5, h6, h8, Option.bind_some, h4, e, Option.map_some, List.filter_cons, hb, if_true, List.flatMap_cons]
    | false =>
      refine ⟨q1.j q, ?_, jnl n1 n⟩
      simp only [h4, e, Option.map_some, List.filter_cons, hb]
      simp
theorem yq_lc2 {p p1 : Tg} {src t src1 t1 f : Ev → Res} {vs vs1 : List Nat} {env : Ev} {ds : List PyData} (env0 : Ev) (b : PyData → Bool) (g : PyData → List PyData) (b1 : PyData → PyData → Bool) (g1 : PyData → PyData → M) (hs : YQ src env (.own (.fz (.list ds))))
    (he : ∀ d ∈ ds, ∃ e1, p d env0 = some e1 ∧ YQ t e1 (.own (.fz (.bool (b d)))) ∧ (b d = true → YQ src1 e1 (.own (.fz (.list (g d)))) ∧ wipeE e1 vs1 = e1 ∧
      ∀ d1 ∈ g d, ∃ e2, p1 d1 e1 = some e2 ∧ YQ t1 e2 (.own (.fz (.bool (b1 d d1)))) ∧ (b1 d d1 = true → YQ f e2 (.own (g1 d d1))) ∧ wipeE e2 vs1 = e1) ∧ wipeE e1 vs = env0)
    (hz : ((ds.filter b).flatMap fun d => ((g d).filter (b1 d)).map (g1 d)).length ≤ SZ)
    (hc : vs.all (calmAt env) = true := by rfl) (hw : wipeE env vs = env0 := by rfl) (hr : restE env0 env vs = env := by rfl) :
    YQ (dLc2 p src t p1 src1 t1 f vs vs1) env (.own (.lst ((ds.filter b).flatMap fun d => ((g d).filter (b1 d)).map (g1 d)))) := by
  obtain ⟨q, e, n⟩ := hs
  obtain ⟨q2, e2, n2⟩ := runC2_q (p := p) (t := t) (f := f) b g b1 g1 he
  refine ⟨(q.j q2).n, ?_, nnl (jnl n n2)⟩
  unfold dLc2
  rw [e]
  simp only [hc, if_true, hw, e2, hr, if_pos hz]
end Q

set_option Elab.async false
set_option linter.all false
set_option maxRecDepth 100000
set_option maxHeartbeats 4000000
/-! list(range(n)); x.pop(i); sorted of a tuple of ints. -/
namespace Q
open PySem PySem.Spec PyProof.Rows L2

/-! ### list(range(n)) -/
def kLRng : List Val → Option (Val × Bool)
  | [.own (.fz (.int j))] => if -(2 ^ 62) ≤ j ∧ j ≤ SZ then some (.own (.lst ((rngD 0 j.toNat).map .fz)), true) else none
  | _ => none
theorem rfs_rg {K : PySem.W.Frag} {H : Hp} {G : Addr → Prop} (j : Int) : RFs K H G (rgV 0 j) (rngD 0 j.toNat) := by
  have key : ∀ (l : List Nat), RFs K H G (l.map fun i => V.int (0 + (i : Nat))) (l.map fun (i : Nat) => PyData.int (0 + (i : Int))) := by
    intro l
    induction l with
    | nil => exact .nil
    | cons a l ih => exact .cons (.int _) ih
  unfold rgV rngD
  rw [Int.sub_zero]
  exact key _
theorem evs_one {f : Ev → Res} {env e1 : Ev} {x : Val} {q : Ql} (h : f env = .ok x e1 q) : evs [f] env = .ok [x] e1 q := by
  unfold evs
  rw [h]
  cases x <;> cases q <;> rfl
section
variable {X : Cx} {a : Expr} {f : Ev → Res} {p pos p2 pos2 : Pos}
theorem se_lrng (hc : X.calm = true) (hm : X.mg "list" = none) (hmr : X.mg "range" = none) (ha : SE X f a) (hg : Gl X "list" := by rfl) (hgr : Gl X "range" := by rfl) (na : starEach [a] X.env = (false, eval a X.env) :: starEach [] X.env := by rfl)
    (na2 : starEach [.Call (.Name "range" p2) [a] [] pos2] X.env = (false, eval (.Call (.Name "range" p2) [a] [] pos2) X.env) :: starEach [] X.env := by rfl) :
    SE X (dG kLRng [f]) (.Call (.Name "list" p) [.Call (.Name "range" p2) [a] [] pos2] [] pos) := fun W tk =>
  PE.imp (pe_listRg hc hg hm (prg_1 hgr hmr (ha W tk) na) na2) fun σ H Q ⟨Z, O, env, I, h⟩ => by
    refine ⟨Z, O, env, I, ?_⟩
    unfold dG at h
    cases ef : f env with
    | stuck =>
      have e : evs [f] env = .stuck := by unfold evs; rw [ef]
      rw [e] at h; exact h.elim
    | exn c e1 =>
      have e : evs [f] env = .exn c e1 := by unfold evs; rw [ef]
      rw [e] at h; exact h
    | ok x e1 q =>
      rw [evs_one ef] at h
      simp only [] at h
      cases ek : kLRng [x] with
      | none => simp only [ek] at h
      | some yn =>
        simp only [ek] at h
        unfold kLRng at ek
        split at ek
        · rename_i j heq
          cases heq
          split at ek
          · rename_i hj
            cases ek
            intro v H1 p1
            obtain ⟨O1, I1, r1, st1, _⟩ := p1.fz1
            cases r1.intI
            have sz : SZ = 16777216 := rfl
            refine ⟨j, rfl, ⟨by omega, by omega, hj.1, by omega, by omega⟩, fun l hn => h _ _ ?_⟩
            obtain ⟨O', F, pa⟩ := p1.ex
            exact pa.newL (rfs_rg j).tms (List.nil_sublist _) hn
          · cases ek
        · cases ek
end

/-! ### x.pop(i) -/
theorem RMs.erase {K : PySem.W.Frag} {H : Hp} {G : Addr → Prop} : ∀ {xs : List V} {ms : List M} {F : List Addr} {k : Nat} {d : PyData}, RMs K H G xs ms F → ms[k]? = some (.fz d) → ∃ v, xs[k]? = some v ∧ RF K H G v d ∧ RMs K H G (xs.eraseIdx k) (ms.eraseIdx k) F
  | _, _, _, k, _, .nil, h => by simp at h
  | _, _, _, 0, d, .cons (v := v) r t, h => by
    simp at h; subst h
    cases r with
    | fz r => exact ⟨v, rfl, r, by simpa using t⟩
  | _, _, _, k + 1, d, .cons r t, h => by
    obtain ⟨v, e1, e2, e3⟩ := RMs.erase (k := k) t (by simpa using h)
    exact ⟨v, by simpa using e1, e2, by simpa using RMs.cons r e3⟩
open Classical in
theorem SI.pop_at {K : PySem.W.Frag} {Z : Addr → Prop} {O : List Addr} {env : Ev} {σ : L2.St} {H : Hp} {s k : Nat} {ms : List M} {d : PyData} (I : SI K Z O env σ H) (em : env[s]? = some (some (.lst ms))) (hm : ms[k]? = some (.fz d)) :
    ∃ a xs v, σ[s]? = some (some (.ref a)) ∧ H a = some (.lst xs) ∧ xs.length = ms.length ∧ xs[k]? = some v ∧ ∃ O2, SI K Z O2 (env.set s (some (.lst (ms.eraseIdx k)))) σ (upd H a (.lst (xs.eraseIdx k))) ∧ Step O H O2 [] (upd H a (.lst (xs.eraseIdx k))) ∧
      RF K (upd H a (.lst (xs.eraseIdx k))) (fun b => ¬ Z b ∧ b ∉ O2) v d := by
  obtain ⟨w, a, xs, ms0, Fr, ms', h1, wy, ha, aO, rms, ef, frO, nr, go⟩ := SI.wr (p := []) (f := fun l => if l = ms then some (ms.eraseIdx k) else none) (m' := .lst (ms.eraseIdx k)) (F := []) (by rw [Zp_nil]; exact I) em (by unfold M.wr; exact congrArg (Option.map M.lst) (if_pos rfl))
  split at ef
  case isFalse => cases ef
  rename_i e0
  cases ef
  subst e0
  cases wy
  obtain ⟨v, e1, r1, r2⟩ := (rms.imp (G' := fun a => ¬ Z a ∧ a ∉ O ∧ a ∉ ([] : List Addr)) fun a g => ⟨fun z => g.1 (.inl z), g.2, fun z => nomatch z⟩).erase hm
  obtain ⟨O2, I2, st2⟩ := go (O0 := O) (H0 := H) r2 nr (fun b hb => .inl hb) (fun _ z => nomatch z) Step.refl
  exact ⟨a, xs, v, h1, ha, rms.length, e1, O2, I2, st2, (r1.imp fun b g => ⟨g.1, g.2.1⟩).after I st2⟩
def dPop (s : Nat) (f : Ev → Res) : Ev → Res := fun env => if isLst env s = true then (match f env with
  | .ok (.own (.fz (.int i))) e1 _ => (match e1[s]? with
    | some (some (.lst ms)) => if -(2 ^ 63) ≤ i ∧ i < 2 ^ 63 then (match seqIndex? i ms.length with
      | some k => (match ms[k]? with
        | some (.fz d) => .ok (.own (.fz d)) (e1.set s (some (.lst (ms.eraseIdx k)))) .l
        | _ => .stuck)
      | none => .stuck) else .stuck
    | _ => .stuck)
  | .ok _ _ _ => .stuck
  | .exn c e => .exn c e
  | .stuck => .stuck) else .stuck
section
variable {X : Cx} {f : Ev → Res} {e : Expr} {px apos cpos : Pos}
theorem pop_ (s : Nat) {x : Str} (he : SE X f e) (hN : X.N[s]? = some x := by rfl) (hv : Vis X.env.scope x := by first | exact Or.inl rfl | exact Or.inr (Or.inl rfl) | exact Or.inr (Or.inr rfl)) (hd : (x == ("__debug__" : Str)) = false := by decide) (hcd : (x == ("__classdict__" : Str)) = false := by decide)
    (hbase : attributeBase (.Name x px) "pop" X.env (eval (.Name x px) X.env) = eval (.Name x px) X.env := by rfl)
    (hfew : ((backTo cpos (starEach [e] X.env)).all (fun x => !x.1) && (backToKw cpos (keywordEach [] X.env)).all (fun x => x.1.isSome)
      && decide ([e].length + ([] : List Keyword).length + (if ([] : List Keyword).isEmpty then 0 else 1) < 30)) = true := by rfl)
    (hline : (apos.endLine == cpos.line) = true := by rfl) (hs : starEach [e] X.env = (false, eval e X.env) :: starEach [] X.env := by rfl) (hplain : (backTo cpos (starEach ([] : List Expr) X.env)).any (·.1) = false := by rfl) :
    SE X (dPop s f) (.Call (.Attribute (.Name x px) "pop" apos) [e] [] cpos) := fun W tk => by
  refine PE.imp (pe_bm PySem.F.plainAttrs_list PySem.F.slot_list_pop PySem.F.type_list_pop mt_popAt (pe_var hN hv hd hcd) (pa_cons (he W tk) pa_nil hs) hbase hfew hline hs hplain) fun σ H Q ⟨Z, O, env, I, h⟩ => ?_
  unfold dPop at h
  by_cases hl : isLst env s = true
  case neg => rw [if_neg hl] at h; exact h.elim
  rw [if_pos hl] at h
  unfold isLst at hl
  split at hl
  case h_2 => cases hl
  rename_i ms0 em
  obtain ⟨w, F, h1, r, _⟩ := I.get em
  have rw0 : ∃ a xs, w = .ref a ∧ H a = some (.lst xs) := by
    cases r with
    | lst ha _ => exact ⟨_, _, rfl, ha⟩
  obtain ⟨a0, xs0, rfl, ha0⟩ := rw0
  refine ⟨.ref a0, h1, .inl ⟨rfl, xs0, .inl (.inl ha0)⟩, Z, O, env, I, ?_⟩
  cases ef : f env with
  | stuck => rw [ef] at h; exact h
  | exn c e1 => rw [ef] at h; exact h
  | ok y e1 q =>
    rw [ef] at h
    cases y with
    | vw m => exact h.elim
    | own m =>
      cases m with
      | fz d =>
        cases d with
        | int i =>
          simp only [] at h
          intro v H1 p1
          obtain ⟨O1, I1, r1, st1, _⟩ := p1.fz1
          cases r1.intI
          cases em1 : e1[s]? with
          | none => simp only [em1] at h
          | some y1 =>
            cases y1 with
            | none => simp only [em1] at h
            | some m1 =>
              cases m1 with
              | lst ms =>
                simp only [em1] at h
                by_cases hi : -(2 ^ 63) ≤ i ∧ i < 2 ^ 63
                case neg => rw [if_neg hi] at h; exact h.elim
                rw [if_pos hi] at h
                cases hk : seqIndex? i ms.length with
                | none => simp only [hk] at h
                | some k =>
                  simp only [hk] at h
                  cases hm : ms[k]? with
                  | none => simp only [hm] at h
                  | some mk =>
                    cases mk with
                    | fz d =>
                      simp only [hm] at h
                      obtain ⟨a, xs, v, h1', ha2, hlen, hx, O2, I2, st2, r2⟩ := SI.pop_at I1 em1 hm
                      rw [h1] at h1'; cases h1'
                      refine ⟨a0, xs, i, k, v, rfl, rfl, ha2, hi.1, hi.2, by rw [hlen]; exact hk, hx, h _ _ ⟨⟨O2, [], ?_⟩⟩⟩
                      exact ⟨by rw [Zp_nil]; exact I2, .own (.fz (r2.imp fun b g => ⟨g.1, g.2, fun z => nomatch z⟩)) .nil, List.Pairwise.nil, (fun _ z => nomatch z), st1.tr0 st2, (fun z => absurd rfl z), fun z => by cases z⟩
                    | lst _ => simp only [hm] at h
                    | tup _ => simp only [hm] at h
                    | dK _ _ => simp only [hm] at h
                    | dT _ _ => simp only [hm] at h
              | fz _ => simp only [em1] at h
              | tup _ => simp only [em1] at h
              | dK _ _ => simp only [em1] at h
              | dT _ _ => simp only [em1] at h
        | none => exact h.elim
        | bool _ => exact h.elim
        | str _ => exact h.elim
        | list _ => exact h.elim
        | tuple _ => exact h.elim
        | dict _ => exact h.elim
      | lst _ => exact h.elim
      | tup _ => exact h.elim
      | dK _ _ => exact h.elim
      | dT _ _ => exact h.elim
end

/-! ### sorted of a tuple of ints -/
theorem collect_tup {prog : Program} {w : World} {A : Around} {E : Value → Shared → Prop} {s : Shared} {l : Addr} {its : List Value} {Q : List Value → Shared → Prop} (hl : IsTup s.heap l its.toArray)
    (h : Q its { s with heap := (s.heap.push (seqObj "list" #[] 0)).update s.heap.objs.size (Obj.mapSeq (· ++ its.toArray)) }) (hsz : its.length ≤ sizeLine) :
    wpAny (model prog w) A (collect (.ref l)) Q E s := by
  obtain ⟨ob, hob, hcl, nn, hda⟩ := id hl
  unfold collect
  refine wpAny_bind (wpAny_runValue (codeAny_builtin entry_proto_collect' ?_))
  show wpAny _ _ (do again (.builtin "list.__iadd__" ⟨[← newList [], .ref l], []⟩)) _ _ s
  refine wpAny_bind (wpAny_newList (wpAny_pure ⟨Code.quiet_builtin _ (by decide +kernel), codeAny_builtin entry_list_iadd' ?_⟩))
  show wpAny _ _ (Builtin.List.listExtendWith (.ref s.heap.objs.size) (.ref l) (.ref s.heap.objs.size)) _ _ { s with heap := s.heap.push (seqObj "list" #[] 0) }
  unfold Builtin.List.listExtendWith
  have hob2 : (s.heap.push (seqObj "list" #[] 0)).get? l = some ob := Heap.get?_push_of_some _ hob
  refine wpAny_bind (wpAny_typeOf (T := "tuple") ⟨ob, hob2, hcl⟩ ?_)
  have ht : (Value.type "tuple" == Value.type "tuple") = true := by rfl
  rw [if_pos (by rw [ht]; simp)]
  refine wpAny_bind (listItems_at hob2 hda ?_)
  refine wpAny_bind (listItems_at (xs := #[]) (n := 0) (Heap.get?_push_size _ rfl) rfl ?_)
  rw [if_neg (by simp)]
  refine wpAny_bind (listUpdate_at (xs := #[]) (n := 0) (Heap.get?_push_size _ rfl) rfl ?_ (Nat.zero_le _) (by show (#[] ++ its.toArray).size ≤ sizeLine + 1; simp only [Array.size_append, List.size_toArray, List.length_nil]; omega))
  refine wpAny_pure ?_
  show wpAny (model prog w) A (do
      let o ← load s.heap.objs.size
      match o.data with
      | .seq ys _ => pure ys.toList
      | _ => unsupported "internal:collect") Q E { s with heap := (s.heap.push (seqObj "list" #[] 0)).update s.heap.objs.size (Obj.mapSeq (· ++ its.toArray)) }
  refine wpAny_bind (wpAny_load (get?_update_seq (Heap.get?_push_size _ rfl) _) ?_)
  show wpAny _ _ (pure ((#[] : Array Value) ++ its.toArray).toList) Q E _
  rw [show ((#[] : Array Value) ++ its.toArray).toList = its by simp]
  exact wpAny_pure h
theorem sorted_tupO {prog : Program} {w : World} {A : Around} {E : Value → Shared → Prop} {s : Shared} {l : Addr} {its : List Value} {ltv : Value → Value → Bool} {Q : Value → Shared → Prop} (sw : SrtO.Swo ltv) (hl : IsTup s.heap l its.toArray) (hz : its.length ≤ sizeLine)
    (hS : 2 ≤ its.length → ∀ (h₁ : Heap) (a : Addr), h₁.get? a = some (seqObj "list" its.toArray 0) → (∀ b o, s.heap.get? b = some o → b ≠ a ∧ h₁.get? b = some o) → SrtO.SortableO prog w A.in1.in1 { s with heap := h₁ } a its ltv)
    (h : ∀ out : List Value, SrtO.Srtd ltv out → SrtO.Stb ltv out its → Q (.ref (s.heap.objs.size + 1)) { s with heap := sortedAll s.heap its out.toArray }) :
    wpAny (model prog w) A (call (.builtin "sorted") [.ref l]) Q E s := by
  refine Calls.call_function_entry kind_sorted plain_sorted entry_sorted (args_sorted1 _) ?_
  unfold Builtin.«sorted»
  refine wpAny_bind (m := checkCount "sorted" 1 1 _) (wpAny_pure ?_)
  refine wpAny_bind (collect_tup hl ?_ hz)
  refine wpAny_bind (wpAny_newList ?_ hz)
  have hsz : ((s.heap.push (seqObj "list" #[] 0)).update s.heap.objs.size (Obj.mapSeq (· ++ its.toArray))).objs.size = s.heap.objs.size + 1 := by
    rw [Heap.size_update, size_push']
  have hoL : (((s.heap.push (seqObj "list" #[] 0)).update s.heap.objs.size (Obj.mapSeq (· ++ its.toArray))).push (seqObj "list" its.toArray 0)).get? (s.heap.objs.size + 1) = some (seqObj "list" its.toArray 0) := by
    rw [← hsz]; exact Heap.get?_push_size _ rfl
  have kept : ∀ b o, s.heap.get? b = some o → b ≠ s.heap.objs.size + 1 ∧ (((s.heap.push (seqObj "list" #[] 0)).update s.heap.objs.size (Obj.mapSeq (· ++ its.toArray))).push (seqObj "list" its.toArray 0)).get? b = some o := fun b o q => by
    have hlt : b < s.heap.objs.size := Heap.lt_size q
    refine ⟨Nat.ne_of_lt (Nat.lt_succ_of_lt hlt), Heap.get?_push_of_some _ ?_⟩
    rw [Heap.get?_update_ne _ _ _ _ (Nat.ne_of_lt hlt)]
    exact Heap.get?_push_of_some _ q
  show wpAny _ _ _ _ _ { s with heap := ((s.heap.push (seqObj "list" #[] 0)).update s.heap.objs.size (Obj.mapSeq (· ++ its.toArray))).push (seqObj "list" its.toArray 0) }
  rw [hsz]
  refine wpAny_bind (wpAny_holding (wpAny_call_entry slot_list_sort ⟨_, hoL, rfl⟩ entry_list_sort (SrtO.list_sort_ord sw hoL hz (fun h2 => hS h2 _ _ hoL kept) fun out hs hb => ⟨_, rfl, ?_⟩) (args_list_sort _)))
  exact wpAny_pure ⟨_, rfl, h out hs hb⟩
theorem cr_sortedTI {X : Cx} : CallR X (.builtin "sorted") (fun vs H Q => ∃ (a : Addr) (ns : List Int), vs = [V.ref a] ∧ SqT X.K H a (ns.map V.int) ∧
    ∀ (ns' : List Int) (p : Addr), ns'.Perm ns → ns'.Pairwise (· ≤ ·) → H p = none → Q (.ref p) (upd H p (.lst (ns'.map V.int)))) := by
  intro pins s σ H vs us Q I r h
  obtain ⟨a, ns, rfl, hs, q⟩ := h
  obtain ⟨its, rv, hl, hz⟩ := I.tuple hs
  rw [Vals.ref1 r]
  have hi := rv.ints
  refine sorted_tupO SrtO.swo_int hl (by rw [← rv.length]; exact hz) (fun h2 h₁ a' _ _ => SrtO.ints_sortable hi h2) fun out h1 h2 => ?_
  obtain ⟨k1, k2, k3⟩ := SrtO.ints_out hi h1 h2
  obtain ⟨ep, he'⟩ := PyProof.Rows.sortedAll_at s.heap its out.toArray
  have hlen : ((out.map SrtO.iv).map V.int).length ≤ sizeLine := by
    rw [List.length_map, k2.length_eq]
    rw [List.length_map] at hz
    exact hz
  exact ⟨.ref _, upd H (s.heap.objs.size + 1) (.lst ((out.map SrtO.iv).map V.int)), I.laid (t' := s.toks) (fun _ _ => PyProof.Rows.sortedAll_old) (Nat.le_succ _) ⟨hlen, out, ep, vals_of_ints k1, he'⟩, rfl, q _ _ k2 k3 (I.hok.fresh (Nat.le_succ _))⟩
def kSortT : List Val → Option (Val × Bool)
  | [x] => (tv x).bind fun ds => (intsD ds).map fun ns => (.own (.lst ((sortI ns).map fun n => .fz (.int n))), true)
  | _ => none
theorem callv_sortT {X : Cx} : CallV X (.builtin "sorted") kSortT := by
  refine ⟨_, cr_sortedTI, fun Z O env env' σ H H' vs xs z b q Q pl he kk => ?_⟩
  unfold kSortT at he
  split at he
  case h_2 => cases he
  rename_i x
  obtain ⟨ds, ea, he⟩ := Option.bind_eq_some_iff.mp he
  obtain ⟨ns, eb, e2⟩ := Option.map_eq_some_iff.mp he
  cases e2
  have hl := pl.len
  obtain ⟨O', F, pa⟩ := id pl.ex
  match vs, hl, pl, pa with
  | [v], _, pl, pa =>
    obtain ⟨a, ws, rfl, h2, h3⟩ := pa.2.1.tv ea
    refine ⟨a, ns, rfl, by rw [← h3.intsD eb]; exact h2.t, fun ns' p hp hs hn => ?_⟩
    have e : ns' = sortI ns := srt_uniq leI_anti (hp.trans (srtB_perm leI ns).symm) (hs.imp fun h => decide_eq_true h) (srtB_srt leI_tot leI_tr ns)
    rw [e]
    exact kk _ _ (pa.newL (rms_ints _) (List.nil_sublist _) hn)
def kSortA (xs : List Val) : Option (Val × Bool) := (kSort xs).orElse fun _ => kSortT xs
theorem callv_sortA {X : Cx} : CallV X (.builtin "sorted") kSortA := callv_sort.or callv_sortT
theorem ksortA_T {ns : List Int} : kSortA [.own (.fz (.tuple (ns.map .int)))] = some (.own (.lst ((sortI ns).map fun n => .fz (.int n))), true) := by
  simp only [kSortA, kSort, kSortI, kSortP, kSortT, lv, tv, Option.bind_none, Option.bind_some, intsD_map, Option.map_some, Option.orElse]
theorem ksortA_of {x : Val} {y : Val × Bool} (h : kSort [x] = some y) : kSortA [x] = some y := by simp only [kSortA, h, Option.orElse]
end Q

set_option Elab.async false
set_option linter.all false
set_option maxRecDepth 100000
set_option maxHeartbeats 4000000
/-! x[e], x an owned list, e with draws in it; what is left to other ways. -/
namespace Q
open PySem PySem.Spec PyProof.Rows L2
def dIxO (s : Nat) (f : Ev → Res) : Ev → Res := fun env => if isLst env s = true then (match f env with
  | .ok (.own (.fz (.int i))) e1 q => (match e1[s]? with
    | some (some (.lst ms)) => (match atI ms i with
      | some (.fz d) => .ok (.own (.fz d)) e1 q
      | _ => .stuck)
    | _ => .stuck)
  | .ok _ _ _ => .stuck
  | .exn c e => .exn c e
  | .stuck => .stuck) else .stuck
section
variable {X : Cx} {f : Ev → Res} {e : Expr} {px pos : Pos}
theorem ixO_ (s : Nat) {x : Str} (he : SE X f e) (hs : PlainIx e := by exact fun _ _ => rfl) (hN : X.N[s]? = some x := by rfl) (hv : Vis X.env.scope x := by first | exact Or.inl rfl | exact Or.inr (Or.inl rfl) | exact Or.inr (Or.inr rfl)) (hd : (x == ("__debug__" : Str)) = false := by decide) (hcd : (x == ("__classdict__" : Str)) = false := by decide) :
    SE X (dIxO s f) (.Subscript (.Name x px) e pos) := fun W tk => by
  refine PE.imp (pe_ix ix_seq (pe_var hN hv hd hcd) (he W tk) hs) fun σ H Q ⟨Z, O, env, I, h⟩ => ?_
  unfold dIxO at h
  by_cases hl : isLst env s = true
  case neg => rw [if_neg hl] at h; exact h.elim
  rw [if_pos hl] at h
  unfold isLst at hl
  split at hl
  case h_2 => cases hl
  rename_i ms0 em
  obtain ⟨w, F, h1, r, _⟩ := I.get em
  have rw0 : ∃ a xs, w = .ref a ∧ H a = some (.lst xs) := by
    cases r with
    | lst ha _ => exact ⟨_, _, rfl, ha⟩
  obtain ⟨a0, xs0, rfl, ha0⟩ := rw0
  refine ⟨.ref a0, h1, Z, O, env, I, ?_⟩
  cases ef : f env with
  | stuck => rw [ef] at h; exact h
  | exn c e1 => rw [ef] at h; exact h
  | ok y e1 q =>
    rw [ef] at h
    cases y with
    | vw m => exact h.elim
    | own m =>
      cases m with
      | fz d =>
        cases d with
        | int i =>
          simp only [] at h
          intro v H1 p1
          obtain ⟨O', F', pa⟩ := p1.ex
          cases pa.2.1.fz1.intI
          cases em1 : e1[s]? with
          | none => simp only [em1] at h
          | some y1 =>
            cases y1 with
            | none => simp only [em1] at h
            | some m1 =>
              cases m1 with
              | lst ms =>
                simp only [em1] at h
                cases ea : atI ms i with
                | none => simp only [ea] at h
                | some mk =>
                  cases mk with
                  | fz d =>
                    simp only [ea] at h
                    obtain ⟨w1, F1, hw1, rm1, _⟩ := pa.1.get em1
                    rw [h1] at hw1; cases hw1
                    cases rm1 with
                    | lst ha1 rms1 =>
                      rename_i xs1 F0 _
                      obtain ⟨j, z, j1, j2, j3⟩ := atI_at rms1.length ea
                      obtain ⟨z', Fa, Fi, Fb, k1, _, k2, _⟩ := rms1.at j1
                      rw [j2] at k1; cases k1
                      exact .inl ⟨a0, xs1, i, z, rfl, rfl, .inl (.inl ha1), j3, h _ _ (pa.keepF (k2.fzD.1.imp fun b g => ⟨fun y => g.1 (.inl y), g.2, fun y => g.1 (.inr y)⟩))⟩
                  | lst _ => simp only [ea] at h
                  | tup _ => simp only [ea] at h
                  | dK _ _ => simp only [ea] at h
                  | dT _ _ => simp only [ea] at h
              | fz _ => simp only [em1] at h
              | tup _ => simp only [em1] at h
              | dK _ _ => simp only [em1] at h
              | dT _ _ => simp only [em1] at h
        | none => exact h.elim
        | bool _ => exact h.elim
        | str _ => exact h.elim
        | list _ => exact h.elim
        | tuple _ => exact h.elim
        | dict _ => exact h.elim
      | lst _ => exact h.elim
      | tup _ => exact h.elim
      | dK _ _ => exact h.elim
      | dT _ _ => exact h.elim
/-- a statement that is never reached -/
def dStk : Ev → Out := fun _ => .stuck
theorem ss_stk {io : Nat → Bool} {st : Stmt} : SS X io dStk st := fun W tk => ⟨fun pins s σ H D I ⟨Z, O, env, I2, h⟩ => h.elim⟩
end
end Q

set_option Elab.async false
set_option linter.all false
set_option maxRecDepth 100000
set_option maxHeartbeats 4000000
/-! tuple * 1 is the tuple. -/
namespace Q
open PySem PySem.Spec PyProof.Rows L2
theorem tuple_mul1 (l : Addr) (items : Array Value) (n : Nat) (dd : Option Addr) (sl : Array (Option Value)) (x : Int) (u : Tok) (hx : x = 1) :
    Meets (Builtin.«tuple.__mul__» ⟨[.ref l, .int x u], []⟩) (fun _ R s => s.heap.get? l = some { cls := .type "tuple", dict := dd, data := .seq items n, slots := sl } ∧
      R (.ok (.ret (Value.ref l))) s) :=
  .of_wp fun prog w A R s h => by
    obtain ⟨hp, g, d, tk, os⟩ := s
    obtain ⟨hl, h⟩ := h
    have f1 := AutoSeq1.idx_int
    have c0 : (decide (x < -(2 ^ 63)) || decide (x ≥ 2 ^ 63)) = false := by rw [decide_eq_false (by omega), decide_eq_false (by omega)] <;> rfl
    have c1 : (items.isEmpty || x == 1) = true := by rw [hx]; simp
    wp_walk using wpAny_loadPart' hl
    repeat (first
      | (refine wpAny_ite_false (decide_eq_false (by rw [c0]; exact Bool.false_ne_true)) ?_; wp_walk using wpAny_loadPart' hl)
      | (refine wpAny_ite_true (decide_eq_true c1) ?_; wp_walk using wpAny_loadPart' hl))
    all_goals first
      | exact ⟨_, rfl, h⟩
      | skip
def rRep1 (K : PySem.W.Frag) : R2 := fun x y H Q => ∃ l xs, x = .ref l ∧ y = .int 1 ∧ SqT K H l xs ∧ Q (.ref l) H
section
variable {X : Cx}
theorem op_rep1 : OpR X (binaryOp .Mult) (rRep1 X.K) := by
  intro pins s σ H x y v u Q I rx ry h
  obtain ⟨l, xs, rfl, rfl, hT, q⟩ := h
  cases rx
  obtain ⟨t, rfl⟩ := ry
  obtain ⟨its, r, ⟨⟨cls, dd, data, sl⟩, ho, hc, n, hd⟩, hs⟩ := I.tuple hT
  simp only at hc hd
  subst hc hd
  refine wpAny_binaryOp_repeat_ref (T := "tuple") (U := "int") (by decide) ⟨_, ho, rfl⟩ (fun s' => typeIs_int s' 1 t) L2.noFill_tuple_mul F.fills_int_mul F.slot_int_rmul L2.repeat_tuple F.slot_int_index.lookup
    (call_meets F.slot_int_rmul (typeIs_int s 1 t) F.entry_int_rmul (F.args_int_rmul_2 _ _) (L2.int_rmul_tuple 1 t l its.toArray n dd sl)
      ⟨ho, rfl, ⟨_, ho, rfl⟩, call_meets F.slot_tuple_mul ⟨_, ho, rfl⟩ F.entry_tuple_mul (F.args_tuple_mul_2 _ _) (tuple_mul1 l its.toArray n dd sl 1 t rfl) ⟨ho, ?_⟩⟩)
  exact ⟨.ref _, _, I, rfl, q⟩
def kMul1 : List Val → Option (Val × Bool)
  | [x, .own (.fz (.int k))] => if k = 1 then (tv x).map fun a => (.own (.fz (.tuple a)), true) else none
  | _ => none
theorem opv_mul1 : OpV X (binaryOp .Mult) kMul1 := by
  refine ⟨_, op_rep1, fun Z O env env' σ H H' v w x y z b q Q pl he kk => ?_⟩
  unfold kMul1 at he
  split at he
  · rename_i heq
    cases heq
    split at he
    · rename_i hc
      subst hc
      obtain ⟨da, ea, he⟩ := Option.map_eq_some_iff.mp he
      cases he
      obtain ⟨O', F, pa⟩ := pl.ex
      obtain ⟨a, ws, rfl, h1, r1⟩ := pa.2.1.tv ea
      exact ⟨a, ws, rfl, second_int pl, h1.t, kk _ _ (Post.wn (pa.keepF (.tup h1 r1)))⟩
    · cases he
  · cases he
def kMulA (xs : List Val) : Option (Val × Bool) := (kMul xs).orElse fun _ => kMul1 xs
theorem opv_mulA : OpV X (binaryOp .Mult) kMulA := opv_mul.or opv_mul1
variable {io : Nat → Bool} {f g : Ev → Res} {a b : Expr} {pos : Pos}
theorem e_mulA (ha : SE X f a) (hb : SE X g b) : SE X (dG kMulA [f, g]) (.BinOp a .Mult b pos) := se_binV opv_mulA ha hb
end
end Q

set_option Elab.async false
set_option linter.all false
set_option maxRecDepth 100000
set_option maxHeartbeats 4000000
/-! t.index(x), t a tuple or a list. -/
namespace Q
open PySem PySem.Spec PyProof.Rows L2
/-! ### a method of a tuple -/
theorem tyN_is {X : Cx} {pins : List (Addr × Obj)} {σ : L2.St} {HH : Hp} {st : Shared} {p : Addr} {xs : List V} (Inn : Inv X pins σ HH st) (h : SqN X.K HH p xs) :
    st.TypeIs (.ref p) "tuple" ∧ ∀ a, Value.ref p = .ref a → ∃ ob, st.heap.get? a = some ob ∧ ob.dict = none := by
  obtain ⟨jts, _, tp, _⟩ := Inn.tuple h.t
  refine ⟨tp.typeIs, fun a e => ?_⟩
  cases e
  rcases h with ⟨o, h, hd⟩ | ⟨o, _, _, h, _, _, _, _, hd⟩
  · exact ⟨o, (Inn.hok p _ h).1, hd⟩
  · exact ⟨o, Inn.kIn p o h, hd⟩
section
variable {X : Cx} {o e : Expr} {es : List Expr} {to : TE} {t : TA} {name : Str} {apos cpos : Pos} {id : String} {r : V → List V → Hp → VK → Prop}
def tBMT (K : PySem.W.Frag) (r : V → List V → Hp → VK → Prop) (to : TE) (t : TA) : TE := fun σ H Q => to σ H fun x H1 => (∃ p xs, x = .ref p ∧ SqN K H1 p xs) ∧ t σ H1 fun xs H2 => r x xs H2 Q
theorem pe_bmT (slot : Slot "tuple" name id) (hty : typeOf (.builtin id) = pure (.type "method_descriptor")) (hm : MtR X id r) (ho : PE X o to) (ha : PA X (e :: es) t)
    (hbase : attributeBase o name X.env (eval o X.env) = eval o X.env := by rfl)
    (few : ((backTo cpos (starEach (e :: es) X.env)).all (fun x => !x.1) && (backToKw cpos (keywordEach [] X.env)).all (fun x => x.1.isSome) && decide ((e :: es).length + ([] : List Keyword).length + (if ([] : List Keyword).isEmpty then 0 else 1) < 30)) = true := by rfl)
    (hline : (apos.endLine == cpos.line) = true := by rfl) (hs : starEach (e :: es) X.env = (false, eval e X.env) :: starEach es X.env := by rfl) (pln : (backTo cpos (starEach es X.env)).any (·.1) = false := by rfl) :
    PE X (.Call (.Attribute o name apos) (e :: es) [] cpos) (tBMT X.K r to t) := ⟨fun pins st ϱ HH QQ Inn h => by
  refine wpAny_Call_method_late hbase few hline rfl (thn (ho.run pins st ϱ HH _ Inn h) fun v s1 ⟨x, H1, I1, r1, ⟨p, ys, ex, hN⟩, q1⟩ => ?_)
  subst ex
  cases r1
  obtain ⟨h1, h2⟩ := tyN_is I1 hN
  refine ⟨"tuple", id, PySem.F.plainAttrs_tuple, slot, hty, h1, h2, ?_⟩
  have args := ha.run cpos pins s1 ϱ H1 _ I1 q1
  rw [hs] at args ⊢
  refine Calls.callWith_builtin (by show (false || (backTo cpos (starEach es X.env)).any (·.1)) = false; rw [pln] <;> rfl) (Calls.evalArgs_plain ?_)
  exact thn args fun us s2 ⟨vs, H2, I2, r2, q2⟩ => hm pins s2 ϱ H2 _ vs _ us QQ I2 (show RelV (.ref p) (.ref p) from rfl) r2 q2⟩
end
def tpV : Val → Bool
  | .own (.fz (.tuple _)) => true
  | _ => false
def tpR : Res → Bool
  | .ok x _ _ => tpV x
  | _ => true
/-- t.m(x), t a tuple -/
def dMtT (k : List Val → Option (Val × Bool)) (f g : Ev → Res) : Ev → Res := fun env => if tpR (f env) = true then dG k [f, g] env else .stuck
theorem tpV_ref {K : PySem.W.Frag} {H : Hp} {G Gv : Addr → Prop} {F : List Addr} {v : V} {x : Val} (r : RVs K H G Gv [v] [x] F) (h : tpV x = true) : ∃ a ws, v = .ref a ∧ SqN K H a ws := by
  unfold tpV at h
  split at h
  · cases r.fz1 with
    | tup hq rs => exact ⟨_, _, rfl, hq⟩
  · cases h
theorem tu_mtT {K : PySem.W.Frag} {mg : Str → Option Value} {W : WX} {k : List Val → Option (Val × Bool)} {f g : Ev → Res} {σ : L2.St} {H : Hp} {Q : VK} {R : List V → Hp → Prop} (h : TU K mg W (dMtT k f g) σ H Q)
    (c : ∀ Z O env env' q x y z b, SI K Z O env σ H → k [x, y] = some (z, b) → ∀ vs H', PostL K Z O env σ H vs H' [x, y] env' q → (∀ v'' H'', Post K Z O env σ H v'' H'' z env' (q.f b) → Q v'' H'') → R vs H') :
    TU K mg W f σ H fun v H1 => (∃ a ws, v = .ref a ∧ SqN K H1 a ws) ∧ TUL K mg W (evs [g]) σ H1 fun ws H2 => R (v :: ws) H2 := by
  obtain ⟨Z, O, env, I, h⟩ := h
  refine ⟨Z, O, env, I, ?_⟩
  unfold dMtT at h
  by_cases hl : tpR (f env) = true
  case neg => rw [if_neg hl] at h; exact h.elim
  rw [if_pos hl] at h
  unfold dG evs at h
  cases ef : f env with
  | stuck => rw [ef] at h; exact h
  | exn cc env1 => rw [ef] at h; exact h
  | ok x env1 q1 =>
    rw [ef] at h hl
    intro v H1 p1
    obtain ⟨O1, F1, I1, r1, nd1, nz1, st1, _⟩ := p1.ex
    refine ⟨tpV_ref r1 hl, ?_⟩
    cases er : evs [g] env1 with
    | stuck => simp only [er] at h
    | exn cc env2 =>
      simp only [er] at h
      refine ⟨Zp Z F1, O1, env1, I1, ?_⟩
      rw [er]
      exact fun cls d H' px => h cls d H' (PostX.after (v := v) (x := x) (q1 := q1) st1 px)
    | ok ys env2 q2 =>
      simp only [er] at h
      obtain ⟨O1', F1', I1', kk⟩ := PostL.cons (q2 := q2) p1
      refine ⟨Zp Z F1', O1', env1, I1', ?_⟩
      rw [er]
      intro vs H2 p2
      have hlen := evs_len er
      match ys, hlen, er, p2, h with
      | [y], _, er, p2, h =>
        have go : ∀ (hv : x.isV = true → q2 ≠ .l), (match k [x, y] with
            | some (z, b) => Res.ok z env2 ((q1.j q2).f b)
            | none => Res.stuck) = (match k [x, y] with
            | some (z, b) => Res.ok z env2 ((q1.j q2).f b)
            | none => Res.stuck) → (match (match k [x, y] with
            | some (z, b) => Res.ok z env2 ((q1.j q2).f b)
            | none => Res.stuck) with
            | .ok z env' q => ∀ v H', Post K Z O env σ H v H' z env' q → Q v H'
            | .exn c env' => ∀ cls d H', PostX K mg Z O σ H cls d H' c env' → W cls d σ H'
            | .stuck => False) → R (v :: vs) H2 := fun hv _ h => by
          cases ek : k [x, y] with
          | none => rw [ek] at h; exact h.elim
          | some zb =>
            obtain ⟨z, b⟩ := zb
            rw [ek] at h
            exact c Z O env env2 (q1.j q2) x y z b I ek _ _ (kk p2 hv) h
        cases x with
        | own m => exact go (fun z => nomatch z) rfl h
        | vw m =>
          cases q2 with
          | l => exact h.elim
          | p => exact go (fun _ z => nomatch z) rfl h
          | q => exact go (fun _ z => nomatch z) rfl h
section
variable {X : Cx} {f g : Ev → Res} {e a : Expr} {apos cpos : Pos} {k : List Val → Option (Val × Bool)} {mn : Str} {id : String}
theorem se_mtT (sl : Slot "tuple" mn id) (ty : typeOf (.builtin id) = pure (.type "method_descriptor")) (hm : MtV X id k) (ha : SE X f a) (hb : SE X g e)
    (hbase : attributeBase a mn X.env (eval a X.env) = eval a X.env := by rfl)
    (few : ((backTo cpos (starEach [e] X.env)).all (fun x => !x.1) && (backToKw cpos (keywordEach [] X.env)).all (fun x => x.1.isSome) && decide ([e].length + ([] : List Keyword).length + (if ([] : List Keyword).isEmpty then 0 else 1) < 30)) = true := by rfl)
    (hline : (apos.endLine == cpos.line) = true := by rfl) (hs : starEach [e] X.env = (false, eval e X.env) :: starEach [] X.env := by rfl) (pln : (backTo cpos (starEach ([] : List Expr) X.env)).any (·.1) = false := by rfl) :
    SE X (dMtT k f g) (.Call (.Attribute a mn apos) [e] [] cpos) := fun W tk => by
  obtain ⟨r, h1, h2⟩ := hm
  refine PE.imp (pe_bmT sl ty h1 (ha W tk) (sa_cons hb sa_nil hs W tk) hbase few hline hs pln) fun σ H Q h => ?_
  have h3 := tu_mtT (R := fun vs H' => ∀ v w, vs = [v, w] → r v [w] H' Q) h fun Z O env env' q x y z b I hk vs H' pl kk v w ev => by
    subst ev
    exact h2 Z O env env' σ H H' v w x y z b q Q pl hk kk
  obtain ⟨Z, O, env, I, h3⟩ := h3
  refine ⟨Z, O, env, I, ?_⟩
  cases ef : f env with
  | stuck => rw [ef] at h3; exact h3
  | exn c e1 => rw [ef] at h3; exact h3
  | ok x e1 q =>
    rw [ef] at h3
    intro v H1 p1
    obtain ⟨⟨p, ws, ev, hq⟩, h4⟩ := h3 v H1 p1
    subst ev
    refine ⟨⟨p, ws, rfl, hq⟩, ?_⟩
    obtain ⟨Z2, O2, env2, I2, h4⟩ := h4
    refine ⟨Z2, O2, env2, I2, ?_⟩
    cases eg : evs [g] env2 with
    | stuck => rw [eg] at h4; exact h4
    | exn c e1 => rw [eg] at h4; exact h4
    | ok ys e3 q3 =>
      rw [eg] at h4
      intro us H2 p2
      obtain ⟨O3, F3, _, rr, _⟩ := p2.ex
      have hlen := (RVs.length rr).trans (evs_len eg)
      match us, hlen with
      | [u], _ => exact h4 [u] H2 p2 _ _ rfl
end
/-! ### index -/
theorem flat_ints (ns : List Int) : (ns.map V.int).all flatV = true := by
  rw [List.all_map]
  exact List.all_eq_true.mpr fun _ _ => rfl
theorem mt_tindex {X : Cx} : MtR X "tuple.index" (fun x xs H Q => ∃ p, ∃ ns : List Int, ∃ z j, x = .ref p ∧ xs = [.int z] ∧ SqT X.K H p (ns.map V.int) ∧ ns[j]? = some z ∧ (∀ m, m < j → ns[m]? ≠ some z) ∧ Q (.int (j : Nat)) H) := by
  intro pins st σ HH x xs v us QQ Inn rx rs h
  obtain ⟨p, ns, z, j, rfl, rfl, hq, hy, hno, q⟩ := h
  cases rx
  obtain ⟨u, rfl, t, rfl⟩ := vals1 rs
  obtain ⟨jts, r, ⟨⟨cls, dd, dt, sl⟩, ho, hc, n, hd⟩, hz⟩ := Inn.tuple hq
  simp only at hc hd
  subst hc hd
  have hl : jts.toArray.size = ns.length := by rw [List.size_toArray, ← r.length, List.length_map]
  have hj : j < jts.toArray.size := by rw [hl]; exact (List.getElem?_eq_some_iff.mp hy).1
  have each : ∀ (m : Nat) (hm : m < jts.toArray.size), ∃ y t', ns[m]? = some y ∧ jts.toArray[m] = Value.int y t' := fun m hm => by
    have hm' : m < ns.length := by omega
    obtain ⟨w, hw, t', hw'⟩ := r.get (i := m) (x := .int ns[m]) (by simp [hm'])
    refine ⟨ns[m], t', List.getElem?_eq_getElem hm', ?_⟩
    rw [← hw', ← (List.getElem?_eq_some_iff.mp hw).2]
    simp
  refine call_meets PySem.F.slot_tuple_index ⟨_, ho, rfl⟩ PySem.F.entry_tuple_index (PySem.F.args_tuple_index_2 _ _) (TI.tuple_indexAt p jts.toArray n dd sl (.int z t) (eqU (.int z)) j hj ?_ ?_)
    ⟨ho, fun w hw => mem_eqAt (x := .int z) ⟨t, rfl⟩ rfl r (flat_ints ns) w (by simpa using hw), ⟨.int (j : Nat), HH, Inn.tok _, ⟨_, rfl⟩, q⟩⟩
  · obtain ⟨y, t', h1, h2⟩ := each j hj
    rw [hy] at h1
    cases h1
    rw [h2]
    show eqV (.int z) (.int z) = true
    simp [eqV]
  · intro m hm hmj
    obtain ⟨y, t', h1, h2⟩ := each m hm
    rw [h2]
    show eqV (.int y) (.int z) = false
    have : y ≠ z := fun e => hno m hmj (e ▸ h1)
    simp [eqV, this]
def kTIndex : List Val → Option (Val × Bool)
  | [x, y] => (tv x).bind fun ds => (intsD ds).bind fun ns => match valD y with
    | some (.int z) => (ns.findIdx? fun y => decide (y = z)).map fun j => (.own (.fz (.int (j : Nat))), false)
    | _ => none
  | _ => none
theorem mtv_tindex {X : Cx} : MtV X "tuple.index" kTIndex := by
  refine ⟨_, mt_tindex, fun Z O env env' σ H H' v w x y z b q Q pl he kk => ?_⟩
  unfold kTIndex at he
  obtain ⟨ds, ea, he⟩ := Option.bind_eq_some_iff.mp he
  obtain ⟨ns, eb, he⟩ := Option.bind_eq_some_iff.mp he
  split at he
  case h_2 => cases he
  rename_i k ek
  obtain ⟨j, ej, e2⟩ := Option.map_eq_some_iff.mp he
  cases e2
  obtain ⟨O', F, pa⟩ := pl.ex
  obtain ⟨a, ws, rfl, h1, r1⟩ := pa.2.1.tv ea
  obtain ⟨F', rt, _⟩ := pa.2.1.tail
  have rd : RFs X.K H' Top [w] [.int k] := rt.data (by simp [valDs, ek])
  cases rd with
  | cons r0 _ =>
    cases r0.intI
    obtain ⟨hj, e3, e4⟩ := List.findIdx?_eq_some_iff_getElem.mp ej
    refine ⟨a, ns, k, j, rfl, rfl, by rw [← RFs.intsD r1 eb]; exact h1.t, ?_, fun m hm hz => ?_, kk _ _ (pl.plain fun G => .int _)⟩
    · rw [List.getElem?_eq_getElem hj, of_decide_eq_true e3]
    · obtain ⟨hm2, e5⟩ := List.getElem?_eq_some_iff.mp hz
      exact e4 m hm (decide_eq_true e5)
/-- x.index(y), x a list or a tuple -/
def dIdx (f g : Ev → Res) : Ev → Res := fun env => if lsR (f env) = true then dMt kLIndex f g env else dMtT kTIndex f g env
theorem se_alt {X : Cx} {c : Ev → Bool} {d1 d2 : Ev → Res} {e : Expr} (h1 : SE X d1 e) (h2 : SE X d2 e) : SE X (fun env => if c env = true then d1 env else d2 env) e := fun W tk => ⟨fun pins st ϱ HH QQ Inn ⟨Z, O, env, I, h⟩ => by
  by_cases hc : c env = true
  · rw [show (fun env => if c env = true then d1 env else d2 env) env = d1 env from if_pos hc] at h
    exact (h1 W tk).run pins st ϱ HH QQ Inn ⟨Z, O, env, I, h⟩
  · rw [show (fun env => if c env = true then d1 env else d2 env) env = d2 env from if_neg hc] at h
    exact (h2 W tk).run pins st ϱ HH QQ Inn ⟨Z, O, env, I, h⟩⟩
theorem idx_ {X : Cx} {f g : Ev → Res} {e a : Expr} {apos cpos : Pos} (hu : X.A.units + 65 < cLine) (ha : SE X f a) (hb : SE X g e)
    (hbase : attributeBase a "index" X.env (eval a X.env) = eval a X.env := by rfl)
    (few : ((backTo cpos (starEach [e] X.env)).all (fun x => !x.1) && (backToKw cpos (keywordEach [] X.env)).all (fun x => x.1.isSome) && decide ([e].length + ([] : List Keyword).length + (if ([] : List Keyword).isEmpty then 0 else 1) < 30)) = true := by rfl)
    (hline : (apos.endLine == cpos.line) = true := by rfl) (hs : starEach [e] X.env = (false, eval e X.env) :: starEach [] X.env := by rfl) (pln : (backTo cpos (starEach ([] : List Expr) X.env)).any (·.1) = false := by rfl) :
    SE X (dIdx f g) (.Call (.Attribute a "index" apos) [e] [] cpos) := se_alt (lindex_ hu ha hb hbase few hline hs pln) (se_mtT PySem.F.slot_tuple_index PySem.F.type_tuple_index mtv_tindex ha hb hbase few hline hs pln)
end Q

set_option Elab.async false
set_option linter.all false
set_option maxRecDepth 100000
set_option maxHeartbeats 4000000
set_option exponentiation.threshold 1000
/-! Plain lemmas for many laws: lists of numbers, orders, draws (no program in sight). -/
namespace Q
open PySem PySem.Spec PyProof.Rows L2
theorem nodup_len : ∀ {n : Nat} {w : List Nat}, w.Nodup → (∀ x ∈ w, x < n) → w.length ≤ n
  | 0, w, _, lt => by
    cases w with
    | nil => simp
    | cons a w => have := lt a List.mem_cons_self; omega
  | n + 1, w, nd, lt => by
    by_cases h : n ∈ w
    · have e := List.length_erase_of_mem h
      have := nodup_len (n := n) (w := w.erase n) (nd.erase n) fun x hx => by
        have h1 := lt x (List.mem_of_mem_erase hx)
        have h2 : x ≠ n := fun z => by
          rw [z] at hx
          exact (nd.not_mem_erase) hx
        omega
      omega
    · have := nodup_len (n := n) (w := w) nd fun x hx => by
        have h1 := lt x hx
        have h2 : x ≠ n := fun z => h (z ▸ hx)
        omega
      omega
theorem last_get {w : List Nat} (h : w ≠ []) : w.getLastD 0 = w.getD (w.length - 1) 0 := by
  cases w with
  | nil => exact absurd rfl h
  | cons a w =>
    have e : (a :: w).getLastD 0 = (a :: w).getLast h := by rw [List.getLastD_eq_getLast?, List.getLast?_eq_some_getLast h]; rfl
    rw [e, List.getLast_eq_getElem]
    simp
theorem idx_get {w : List Nat} {x : Nat} (h : x ∈ w) : w.getD (w.idxOf x) 0 = x := by
  have hi := List.idxOf_lt_length_of_mem h
  have e := List.getElem_idxOf hi
  have : w.getD (w.idxOf x) 0 = w[w.idxOf x] := by simp only [List.getD_eq_getElem?_getD, List.getElem?_eq_getElem hi, Option.getD_some]
  rw [this, e]
section
variable {f : Nat → Nat} {n : Nat} {r : List Nat}
theorem get_mem {j : Nat} (h : j < r.length) : r.getD j 0 ∈ r := by
  have : r.getD j 0 = r[j] := by simp [h]
  rw [this]
  exact List.getElem_mem h
end
def gD (rn : List (List Nat)) : PyData := .tuple (rn.map fun r => .tuple (natsD r))
def up (l : List Nat) : List Int := l.map fun x : Nat => (x : Int)
theorem down {l : List Int} (h : ∀ x ∈ l, 0 ≤ x) : up (l.map Int.toNat) = l := by
  unfold up
  rw [List.map_map]
  refine (List.map_congr_left fun x hx => ?_).trans (List.map_id l)
  show ((x.toNat : Nat) : Int) = x
  rw [Int.toNat_of_nonneg (h x hx)]
theorem up_mem {l : List Nat} {x : Nat} (h : x ∈ l) : (x : Int) ∈ up l := List.mem_map.mpr ⟨x, h, rfl⟩
theorem ix_gD {rn : List (List Nat)} {i : Nat} (h : i < rn.length) : ixV (.own (.fz (gD rn))) (i : Int) = some (.own (.fz (.tuple (natsD (rn.getD i []))))) := by
  show (atI (rn.map fun r => PyData.tuple (natsD r)) (i : Int)).map _ = _
  unfold atI
  rw [List.length_map, ixN_of h]
  simp [h]
theorem yq_lenG {rn : List (List Nat)} {f : Ev → Res} {env : Ev} (h : YQ f env (.own (.fz (gD rn)))) : YQ (dG kLen [f]) env (.own (.fz (.int (rn.length : Nat)))) := yq_len h (by simp [gD, lenV])
abbrev gM (rn : List (List Nat)) : Option M := some (.fz (gD rn))
abbrev lM (os : List Nat) : Option M := some (.fz (.list (natsD os)))
abbrev tM (os : List Nat) : Option M := some (.fz (.tuple (natsD os)))
abbrev nM (i : Nat) : Option M := some (.fz (.int (i : Nat)))
theorem sh_shaped {k : Nat} {d : PyData} (h : Sh k d) (hk : k ≤ 64) : SeqAt.shaped d = true := by
  unfold SeqAt.shaped
  rw [Bool.and_eq_true]
  exact ⟨h.1, decide_eq_true (Nat.le_trans h.2 hk)⟩
theorem eqv_int (a b : Int) : PyData.eqv (.int a) (.int b) = decide (a = b) := by
  simp [PyData.eqv]
  rfl
theorem sum_cast (l : List Nat) : (l.map fun x : Nat => (x : Int)).sum = (l.sum : Nat) := by
  induction l with
  | nil => rfl
  | cons a l ih => rw [List.map_cons, List.sum_cons, List.sum_cons, ih]; simp
theorem sh_natsL (l : List Nat) : Sh 1 (.list (natsD l)) := sh_lst (k := 0) fun x hx => by
  obtain ⟨i, _, rfl⟩ := List.mem_map.mp hx
  exact sh_int
section
variable {f g : Ev → Res} {env : Ev} {x : Val} {l : List Nat} {j k : Nat}
theorem yq_indexN (h : YQ f env x) (hx : lv x = some (natsD l)) (hv : lsV x = true) (hg : YQ g env (.own (.fz (.int (k : Nat))))) (hj : j < l.length) (h1 : l.getD j 0 = k) (h2 : ∀ i, i < j → l.getD i 0 ≠ k) : YQ (dMt kLIndex f g) env (.own (.fz (.int (j : Nat)))) := by
  have e : (natsD l).findIdx? (fun z => PyData.eqv z (.int (k : Nat))) = some j := by
    rw [List.findIdx?_eq_some_iff_getElem]
    refine ⟨by rw [natsD_len]; exact hj, ?_, fun i hi => ?_⟩
    · have : (natsD l)[j]'(by rw [natsD_len]; exact hj) = .int (l.getD j 0 : Nat) := by simp [natsD, hj]
      rw [this, eqv_int, h1]
      simp
    · have := h2 i hi
      have e : (natsD l)[i]'(by rw [natsD_len]; omega) = .int (l.getD i 0 : Nat) := by simp [natsD, show i < l.length by omega]
      rw [e, eqv_int]
      simp only [decide_eq_true_eq]
      omega
  obtain ⟨q, e1, n⟩ := yq_G (k := kLIndex) (b := false) (ys_cons h (ys_cons hg ys_nil)) (y := .own (.fz (.int (j : Nat)))) (by
    have hv : valD (.own (.fz (.int (k : Nat)))) = some (.int (k : Nat)) := rfl
    simp only [kLIndex, hx, Option.bind_some, hv]
    rw [if_pos ⟨sh_shaped (sh_natsL l) (by decide), sh_shaped (sh_int (k := 1)) (by decide)⟩, e]
    rfl)
  refine ⟨q, ?_, n⟩
  obtain ⟨q0, e0, _⟩ := h
  unfold dMt
  rw [if_pos (by rw [e0]; exact hv), e1]
end
theorem sum_if (c : Nat → Bool) (f : Nat → Nat) : ∀ l : List Nat, ((l.filter c).map f).sum = (l.map fun x => if c x = true then f x else 0).sum
  | [] => rfl
  | a :: l => by
    rw [List.filter_cons, List.map_cons, List.sum_cons, ← sum_if c f l]
    by_cases h : c a = true
    · rw [if_pos h, if_pos h]; rfl
    · rw [if_neg h, if_neg h, Nat.zero_add]
theorem seqv_vw (ds : List PyData) : seqv (.vw (.lst (ds.map M.fz))) = some ds := by
  unfold seqv
  have : lv (.vw (.lst (ds.map M.fz))) = some ds := by
    unfold lv
    exact leaves_fz ds
  rw [this]; rfl
theorem runW_ret {t : Ev → Res} {b : Ev → Out} {env e : Ev} {m : M} {k : Nat} (h : YQ t env (.own (.fz (.bool true)))) (hb : b env = .ret m e) : runW t b (k + 1) env = .ret m e := by
  obtain ⟨q, e1, _⟩ := h
  rw [runW]
  simp only [e1, hb]
abbrev oM (os : List Nat) : Option M := some (.lst ((natsD os).map .fz))
theorem ix_last {w : List Nat} (h : w ≠ []) : ixV (.vw (.lst ((natsD w).map .fz))) (-1) = some (.own (.fz (.int (w.getLastD 0 : Nat)))) := by
  have hp : 0 < w.length := List.length_pos_iff.mpr h
  have e : ixN w.length (-1) = some (w.length - 1) := by
    unfold ixN
    rw [if_neg (by decide)]
    first
      | (rw [if_pos (by omega)]; congr 1; omega)
      | (rw [if_pos (by omega)]; simp; omega)
      | (split <;> simp <;> omega)
  simp only [ixV, atI, List.length_map, natsD_len, e, Option.bind_some]
  rw [last_get h]
  simp [natsD, show w.length - 1 < w.length by omega, mkVw]
theorem isIn_nats (x : Nat) (l : List Nat) : isIn (.int (x : Nat)) (natsD l) = decide (x ∈ l) := by
  unfold isIn natsD
  rw [List.any_map]
  induction l with
  | nil => rfl
  | cons a l ih =>
    rw [List.any_cons, ih]
    show (PyData.eqv (.int (a : Nat)) (.int (x : Nat)) || _) = _
    rw [eqv_int]
    by_cases h : x = a
    · subst h; simp
    · have : ¬ (a : Int) = (x : Int) := by omega
      simp [h, this]
theorem scal_nats (l : List Nat) : (natsD l).all scalD = true := by
  rw [List.all_eq_true]
  intro d hd
  obtain ⟨x, _, rfl⟩ := List.mem_map.mp hd
  rfl
theorem oInB_nats (x : Nat) (l : List Nat) : oInB [.int (x : Nat), .list (natsD l)] = some (decide (x ∈ l)) := by
  show (if (scalD (.int (x : Nat)) && (natsD l).all scalD) = true then some (isIn (.int (x : Nat)) (natsD l)) else _) = _
  rw [scal_nats]
  refine Eq.trans (if_posb (c := true && true) rfl _ _) ?_
  rw [isIn_nats]
section
variable {f g : Ev → Res} {env : Ev} {x : Nat} {l : List Nat} {v : Val}
theorem yq_inN (h : YQ f env (.own (.fz (.int (x : Nat))))) (h2 : YQ g env v) (hv : valD v = some (.list (natsD l))) : YQ (dG (kPl oIn) [f, g]) env (.own (.fz (.bool (decide (x ∈ l))))) := yq_G (b := false) (ys_cons h (ys_cons h2 ys_nil)) (by
  have e : valDs [.own (.fz (.int (x : Nat))), v] = some [.int (x : Nat), .list (natsD l)] := by
    have e1 : valD (.own (.fz (.int (x : Nat)))) = some (.int (x : Nat)) := rfl
    simp only [valDs, e1, hv, Option.bind_some, Option.map_some]
  simp only [kPl, e, Option.bind_some, oIn, oInB_nats, Option.map_some])
theorem yq_ninN (h : YQ f env (.own (.fz (.int (x : Nat))))) (h2 : YQ g env v) (hv : valD v = some (.list (natsD l))) : YQ (dG (kPl oNin) [f, g]) env (.own (.fz (.bool (!decide (x ∈ l))))) := yq_G (b := false) (ys_cons h (ys_cons h2 ys_nil)) (by
  have e : valDs [.own (.fz (.int (x : Nat))), v] = some [.int (x : Nat), .list (natsD l)] := by
    have e1 : valD (.own (.fz (.int (x : Nat)))) = some (.int (x : Nat)) := rfl
    simp only [valDs, e1, hv, Option.bind_some, Option.map_some]
  simp only [kPl, e, Option.bind_some, oNin, oInB_nats, Option.map_some])
theorem vw_valD (l : List Nat) : valD (.vw (.lst ((natsD l).map .fz))) = some (.list (natsD l)) := frz_lst _
theorem cut_from (l : List Nat) {i : Nat} (h : i ≤ l.length) : cutD (natsD l) (some (i : Int)) none = natsD (l.drop i) := by
  unfold cutD
  rw [natsD_len]
  have e1 : HT.sIx l.length 0 (some (i : Int)) = i := by
    unfold HT.sIx
    simp
    rw [if_neg (by omega)]
    omega
  have e2 : HT.sIx l.length l.length none = l.length := rfl
  rw [e1, e2]
  unfold natsD
  rw [← List.map_drop, List.take_of_length_le (by simp)]
theorem yq_from {i s : Nat} (h : env[s]? = some (oM l)) (h2 : YQ g env (.own (.fz (.int (i : Nat))))) (hi : i ≤ l.length) : YQ (dFr (dF Ql.n (kSl1 true) [dPk s, g])) env (.own (.fz (.list (natsD (l.drop i))))) := by
  refine yq_fr (m := .lst ((natsD (l.drop i)).map .fz)) (yq_Fn (ys_cons (yq_vw h) (ys_cons h2 ys_nil)) ?_) (frz_lst _)
  rw [← cut_from l hi]
  show slV (.vw (.lst ((natsD l).map .fz))) (some (i : Int)) none = _
  have : lv (.vw (.lst ((natsD l).map .fz))) = some (natsD l) := by
    unfold lv
    exact leaves_fz _
  show (lv (.vw (.lst ((natsD l).map .fz)))).map _ = _
  rw [this]
  rfl
end
theorem filt_nats {c : Nat → Bool} {n : Nat} : ((rngD 0 n).filter fun d => match d with
    | .int j => c j.toNat
    | _ => false).map M.fz = (natsD ((List.range n).filter c)).map .fz := by
  rw [rngD_ints, List.filter_map]
  rfl
theorem head_ix {l : List Nat} (h : l ≠ []) : ixV (.own (.fz (.list (natsD l)))) 0 = some (.own (.fz (.int (l.headD 0 : Nat)))) := by
  cases l with
  | nil => exact absurd rfl h
  | cons a l => exact ix_lstN (l := a :: l) (i := 0) (by simp)
theorem last_mem {w : List Nat} (h : w ≠ []) : w.getLastD 0 ∈ w := by
  rw [last_get h]
  have hp : 0 < w.length := List.length_pos_iff.mpr h
  exact get_mem (by omega)
theorem dicOf_M (t : List (Key × PyData)) : dicOf (some (some (dicM t))) = some t := by
  unfold dicOf dicM
  simp only []
  rw [fzs_map, leaves_fz]
  show some ((t.map (·.1)).zip (t.map (·.2))) = some t
  congr 1
  rw [List.zip_map']
  exact List.map_id t
theorem out_putK {s : Nat} {g f : Ev → Res} {env : Ev} {t : List (Key × PyData)} {kd d : PyData} {k : Key} (h : YQ f env (.own (.fz d))) (hg : YQ g env (.own (.fz kd))) (hs : env[s]? = some (some (dicM t))) (hk : keyD kd = some k) (hl : t.length < SZ) : dPutK s g f env = .nx (env.set s (some (dicM (putD t k d)))) := by
  obtain ⟨q, e, _⟩ := yq_fr h (m := .fz d) rfl
  obtain ⟨q2, e2, _⟩ := yq_fr hg (m := .fz kd) rfl
  have hd : dicOf env[s]? = some t := by rw [hs]; exact dicOf_M t
  have hh : held1 env s = true := by unfold held1; rw [hs]
  unfold dPutK
  simp only [e, hh, if_true, e2, hk, hd, if_pos hl]
theorem yq_get2 {s : Nat} {g f : Ev → Res} {env : Ev} {t : List (Key × PyData)} {kd yd : PyData} {k : Key} (h : YQ f env (.own (.fz kd))) (hg : YQ g env (.own (.fz yd))) (hs : env[s]? = some (some (dicM t))) (hk : keyD kd = some k) : YQ (dGet2 s f g) env (.own (.fz ((findD t k).getD yd))) := by
  obtain ⟨q, e, n⟩ := ys_cons (yq_fr h (m := .fz kd) rfl) (ys_cons (yq_fr hg (m := .fz yd) rfl) ys_nil)
  have hd : dicOf env[s]? = some t := by rw [hs]; exact dicOf_M t
  refine ⟨q.n, ?_, nnl n⟩
  unfold dGet2
  simp only [hd, e, get2R, hk]
theorem yq_addL {f g : Ev → Res} {env : Ev} {a : List Nat} {b : Nat} (h : YQ f env (.own (.fz (.list (natsD a))))) (h2 : YQ g env (.own (.fz (.int (b : Nat))))) (hl : a.length ≤ 1000) : YQ (dFr (dG kAdd [f, dLst [dFr g]])) env (.own (.fz (.list (natsD (a ++ [b]))))) := by
  have y2 : YQ (dLst [dFr g]) env (.own (.lst [.fz (.int (b : Nat))])) := yq_Fn (ys_cons (yq_fr h2 rfl) ys_nil) rfl
  refine yq_fr (m := .lst ((natsD (a ++ [b])).map .fz)) (yq_G (b := true) (ys_cons h (ys_cons y2 ys_nil)) ?_) (frz_lst _)
  have k1 : kAddP [.own (.fz (.list (natsD a))), .own (.lst [.fz (.int (b : Nat))])] = none := rfl
  have k2 : kAddT [.own (.fz (.list (natsD a))), .own (.lst [.fz (.int (b : Nat))])] = none := rfl
  have k3 : kAddL [.own (.fz (.list (natsD a))), .own (.lst [.fz (.int (b : Nat))])] = some (.own (.lst ((natsD (a ++ [b])).map .fz)), true) := by
    show (if (natsD a).length + 1 ≤ SZ then some (Val.own (.lst ((natsD a ++ [PyData.int (b : Nat)]).map .fz)), true) else none) = _
    rw [natsD_len, if_pos (by unfold SZ; omega)]
    have : natsD a ++ [PyData.int (b : Nat)] = natsD (a ++ [b]) := by simp [natsD]
    rw [this]
  unfold kAdd
  rw [k1, k2, k3]
  rfl
theorem get_inj {r : List Nat} (nd : r.Nodup) {a b : Nat} (ha : a < r.length) (hb : b < r.length) (h : r.getD a 0 = r.getD b 0) : a = b := by
  have z2 : r[a] = r[b] := by simpa [ha, hb] using h
  exact (List.getElem_inj nd).mp z2
theorem succ_mod {j L : Nat} (h : j < L) : (j + 1) % L = if j + 1 = L then 0 else j + 1 := by
  by_cases e : j + 1 = L
  · rw [if_pos e, e, Nat.mod_self]
  · rw [if_neg e]; exact Nat.mod_eq_of_lt (by omega)
theorem pred_mod {j L : Nat} (h : j < L) : (j + L - 1) % L = if j = 0 then L - 1 else j - 1 := by
  by_cases e : j = 0
  · rw [if_pos e, e, Nat.zero_add]; exact Nat.mod_eq_of_lt (by omega)
  · rw [if_neg e]
    have : j + L - 1 = (j - 1) + L := by omega
    rw [this, Nat.add_mod_right]
    exact Nat.mod_eq_of_lt (by omega)
theorem yq_index1 {f g : Ev → Res} {env : Ev} {v : Val} {l : List Nat} {x : Nat} (h : YQ f env v) (hx : lv v = some (natsD l)) (hv : lsV v = true) (hg : YQ g env (.own (.fz (.int (x : Nat))))) (hm : x ∈ l) : YQ (dMt kLIndex f g) env (.own (.fz (.int (l.idxOf x : Nat)))) := by
  have hi := List.idxOf_lt_length_of_mem hm
  refine yq_indexN (l := l) (k := x) h hx hv hg hi (idx_get hm) fun i hlt e => ?_
  have hl : i < l.length := by omega
  have e2 : l[i] = x := by rw [← e]; simp [hl]
  have := List.not_of_lt_findIdx (p := fun y => y == x) (xs := l) (i := i) hlt
  simp [e2] at this
theorem lt_ints (a b : Int) (l m : List Int) : PySem.W.dataLt (.list ((a :: l).map .int)) (.list ((b :: m).map .int)) = (decide (a < b) || (!decide (b < a) && PySem.W.dataLt (.list (l.map .int)) (.list (m.map .int)))) := by
  unfold PySem.W.dataLt
  show PyProof.Rows.lexLt PyProof.Rows.itemOrd (.inl 1 :: ([.inl a] ++ PySem.W.keyToksAll (l.map .int))) (.inl 1 :: ([.inl b] ++ PySem.W.keyToksAll (m.map .int))) = _
  rw [PyProof.Rows.lex_self (O := PyProof.Rows.itemOrd)]
  exact PyProof.Rows.lex_cons (O := PyProof.Rows.itemOrd) _ _ _ _
theorem lt_pair (s t : Int × Int) : PySem.W.dataLt (pairD s) (pairD t) = decide (s.1 < t.1 ∨ (s.1 = t.1 ∧ s.2 < t.2)) := by
  have e : PySem.W.dataLt (pairD s) (pairD t) = PySem.W.dataLt (.list ([s.1, s.2].map .int)) (.list ([t.1, t.2].map .int)) := rfl
  have z : PySem.W.dataLt (.list (([] : List Int).map .int)) (.list (([] : List Int).map .int)) = false := rfl
  rw [e, lt_ints, lt_ints, z]
  by_cases h1 : s.1 < t.1
  · simp [h1]
  · by_cases h2 : t.1 < s.1
    · simp [h1, h2]
      omega
    · have e1 : s.1 = t.1 := by omega
      simp [e1]
theorem minD_least {d : PyData} {ds : List PyData} : ∀ x ∈ d :: ds, PySem.W.dataLt x (PySem.W.minD d ds) = false := by
  have irr : ∀ x, PySem.W.dataLt x x = false := fun x => PyProof.Rows.lex_irrefl (O := PyProof.Rows.itemOrd) _
  have tr : ∀ x y z, PySem.W.dataLt x y = true → PySem.W.dataLt y z = true → PySem.W.dataLt x z = true := fun x y z => PyProof.Rows.lex_trans (O := PyProof.Rows.itemOrd) _ _ _
  have key : ∀ (ds : List PyData) (d : PyData) (seen : List PyData), (∀ x ∈ seen, PySem.W.dataLt x d = false) → ∀ x, x ∈ seen ∨ x ∈ d :: ds → PySem.W.dataLt x (PySem.W.minD d ds) = false := by
    intro ds
    induction ds with
    | nil =>
      intro d seen h x hx
      rcases hx with hx | hx
      · exact h x hx
      · rw [List.mem_singleton.mp hx]; exact irr d
    | cons y ds ih =>
      intro d seen h x hx
      show PySem.W.dataLt x (PySem.W.minD (if PySem.W.dataLt y d = true then y else d) ds) = false
      by_cases hy : PySem.W.dataLt y d = true
      · rw [if_pos hy]
        refine ih y (d :: seen) (fun z hz => ?_) x ?_
        · cases hzy : PySem.W.dataLt z y with
          | false => rfl
          | true =>
            have hzd := tr z y d hzy hy
            rcases List.mem_cons.mp hz with e | hz
            · rw [e, irr] at hzd; cases hzd
            · rw [h z hz] at hzd; cases hzd
        · rcases hx with hx | hx
          · exact .inl (List.mem_cons_of_mem _ hx)
          · rcases List.mem_cons.mp hx with e | hx
            · exact .inl (by rw [e]; exact List.mem_cons_self)
            · exact .inr hx
      · have hy : PySem.W.dataLt y d = false := by simpa using hy
        rw [hy]
        refine ih d (y :: seen) (fun z hz => ?_) x ?_
        · rcases List.mem_cons.mp hz with e | hz
          · rw [e]; exact hy
          · exact h z hz
        · rcases hx with hx | hx
          · exact .inl (List.mem_cons_of_mem _ hx)
          · rcases List.mem_cons.mp hx with e | hx
            · exact .inr (by rw [e]; exact List.mem_cons_self)
            · rcases List.mem_cons.mp hx with e | hx
              · exact .inl (by rw [e]; exact List.mem_cons_self)
              · exact .inr (List.mem_cons_of_mem _ hx)
  exact fun x hx => key ds d [] (fun _ h => by cases h) x (.inr hx)
theorem noLs_ints (p : List Int) : noLs (p.map .int) = true := by
  induction p with
  | nil => rfl
  | cons a p ih => rw [List.map_cons, noLs, ih]; rfl
theorem alike_intsD : ∀ (a b : List Int), PySem.W.alikeAll (a.map .int) (b.map .int) = true
  | [], [] => rfl
  | [], _ :: _ => rfl
  | _ :: _, [] => rfl
  | x :: a, y :: b => by
    show (PySem.W.alike (.int x) (.int y) && PySem.W.alikeAll (a.map .int) (b.map .int)) = true
    rw [alike_intsD a b]; rfl
theorem yq_minT {f : Ev → Res} {env : Ev} {x : Val} {r : PyData} {ts : List (List Int)} {t : List Int} (h : YQ f env x) (hx : valD x = some (.list ((t :: ts).map fun l => .tuple (l.map .int)))) (hr : PySem.W.minD (.tuple (t.map .int)) (ts.map fun l => .tuple (l.map .int)) = r) : YQ (dG kMinA [f]) env (.own (.fz r)) := yq_G (b := false) (ys_cons h ys_nil) (by
  have e : valDs [x] = some [.list ((t :: ts).map fun l => .tuple (l.map .int))] := by simp only [valDs, hx, Option.bind_some, Option.map_some]
  have e1 : kPl oMin [x] = none := by
    simp only [kPl, e, Option.bind_some, oMin, List.map_cons]
    rfl
  have al : alikes ((t :: ts).map fun l => .tuple (l.map .int)) = true := by
    unfold alikes
    rw [Bool.and_eq_true, List.all_eq_true, List.all_eq_true]
    refine ⟨fun a ha => ?_, fun a ha => ?_⟩
    · rw [List.all_eq_true]
      intro b hb
      obtain ⟨p, _, rfl⟩ := List.mem_map.mp ha
      obtain ⟨q, _, rfl⟩ := List.mem_map.mp hb
      exact alike_intsD p q
    · obtain ⟨p, _, rfl⟩ := List.mem_map.mp ha
      rfl
  have sh : SeqAt.shaped (.list ((t :: ts).map fun l => .tuple (l.map .int))) = true := sh_shaped (k := 2) (sh_lst (k := 1) fun a ha => by
    obtain ⟨p, _, rfl⟩ := List.mem_map.mp ha
    exact sh_tup (k := 0) fun y hy => by
      obtain ⟨i, _, rfl⟩ := List.mem_map.mp hy
      exact sh_int) (by decide)
  have nl : noL r = true := by
    have hm := minD_mem (.tuple (t.map .int)) (ts.map fun l => .tuple (l.map .int))
    rw [hr, ← List.map_cons (f := fun l : List Int => PyData.tuple (l.map .int))] at hm
    obtain ⟨p, _, rfl⟩ := List.mem_map.mp hm
    exact noLs_ints p
  have e2 : kPl (oBest PySem.W.minD) [x] = some (.own (.fz r), false) := by
    have : oBest PySem.W.minD [.list ((t :: ts).map fun l => .tuple (l.map .int))] = some r := by
      rw [List.map_cons] at al sh ⊢
      show (if (alikes _ && SeqAt.shaped _ && noL (PySem.W.minD (.tuple (t.map .int)) (ts.map fun l => .tuple (l.map .int)))) = true then some (PySem.W.minD (.tuple (t.map .int)) (ts.map fun l => .tuple (l.map .int))) else none) = some r
      rw [hr, al, sh, nl]
      rfl
    simp only [kPl, e, Option.bind_some, this, Option.map_some]
  unfold kMinA
  rw [e1, e2]; rfl)
theorem out_aug {i : Nat} {f : Ev → Res} {env : Ev} {a b c : Int} {o : Int → Int → Option Int} (he : env[i]? = some (some (.fz (.int a)))) (h : YQ f env (.own (.fz (.int b)))) (ho : o a b = some c) (hi : i < env.length) : dAug i o f env = .nx (env.set i (some (.fz (.int c)))) := by
  obtain ⟨q, e, _⟩ := h
  unfold dAug
  simp only [he, e, ho, put1, if_pos hi]
theorem out_par3 {i j l : Nat} {f g k : Ev → Res} {env : Ev} {m n o : M} (h : YQs [f, g, k] env [.own m, .own n, .own o]) (hi : i < env.length) (hj : j < env.length) (hl : l < env.length) : dPar3 i j l f g k env = .nx (((env.set i (some m)).set j (some n)).set l (some o)) := by
  obtain ⟨q, e, _⟩ := h
  unfold dPar3
  simp only [e, if_pos (And.intro hi (And.intro hj hl))]
theorem klrng {n : Nat} (h : n ≤ 1000) : kLRng [.own (.fz (.int (n : Nat)))] = some (.own (.lst ((rngD 0 n).map .fz)), true) := by
  have sz : SZ = 16777216 := rfl
  show (if -(2 ^ 62) ≤ ((n : Nat) : Int) ∧ ((n : Nat) : Int) ≤ SZ then some (Val.own (.lst ((rngD 0 ((n : Nat) : Int).toNat).map .fz)), true) else none) = _
  rw [if_pos (by omega)]
  rfl
theorem eqv_ints : ∀ a b : List Int, PyData.eqv (.list (a.map .int)) (.list (b.map .int)) = decide (a = b)
  | [], [] => by simp [PyData.eqv, PyData.eqvAll]
  | [], _ :: _ => by simp [PyData.eqv, PyData.eqvAll]
  | _ :: _, [] => by simp [PyData.eqv, PyData.eqvAll]
  | x :: a, y :: b => by
    have ih := eqv_ints a b
    have e : PyData.eqv (.list ((x :: a).map .int)) (.list ((y :: b).map .int)) = (PyData.eqv (.int x) (.int y) && PyData.eqv (.list (a.map .int)) (.list (b.map .int))) := by simp only [List.map_cons, PyData.eqv, PyData.eqvAll]
    rw [e, ih, eqv_int]
    by_cases h1 : x = y <;> by_cases h2 : a = b <;> simp [h1, h2]
theorem ints_shL (l : List Int) : Sh 1 (.list (l.map .int)) := sh_lst (k := 0) fun x hx => by
  obtain ⟨i, _, rfl⟩ := List.mem_map.mp hx
  exact sh_int
theorem minI_of {l : List Int} {m : Int} (h : m ∈ l) (hle : ∀ x ∈ l, m ≤ x) : minI l = some m := by
  cases e : minI l with
  | none =>
    cases l with
    | nil => cases h
    | cons a l => cases e
  | some k =>
    obtain ⟨h1, h2⟩ := minI_some e
    have := h2 m h
    have := hle k h1
    rw [show k = m by omega]
section
variable {f g : Ev → Res} {env : Ev} {x : Val} {l : List Nat} {j k : Nat}
theorem yq_minN (h : YQ f env x) (hx : valD x = some (.list (natsD l))) (hm : k ∈ l) (hle : ∀ y ∈ l, k ≤ y) : YQ (dG kMinA [f]) env (.own (.fz (.int (k : Nat)))) := yq_G (b := false) (ys_cons h ys_nil) (by
  have e : valDs [x] = some [.list (natsD l)] := by simp only [valDs, hx, Option.bind_some, Option.map_some]
  have e2 : minI (l.map fun x : Nat => (x : Int)) = some (k : Int) := minI_of (List.mem_map.mpr ⟨k, hm, rfl⟩) fun y hy => by
    obtain ⟨z, hz, rfl⟩ := List.mem_map.mp hy
    have := hle z hz
    omega
  have e3 : kPl oMin [x] = some (.own (.fz (.int (k : Nat))), false) := by
    simp only [kPl, e, Option.bind_some, oMin, natsD_ints, intsD_map, e2, Option.map_some]
  unfold kMinA
  rw [e3]; rfl)
end
theorem max_nats {l : List Nat} (h : l ≠ []) : ∃ M : Nat, M ∈ l ∧ (∀ x ∈ l, x ≤ M) ∧ maxI (l.map fun x : Nat => (x : Int)) = some (M : Int) := by
  cases e : maxI (l.map fun x : Nat => (x : Int)) with
  | none =>
    cases l with
    | nil => exact absurd rfl h
    | cons a l => cases e
  | some k =>
    obtain ⟨h1, h2⟩ := maxI_some e
    obtain ⟨M, hM, rfl⟩ := List.mem_map.mp h1
    exact ⟨M, hM, fun x hx => by have := h2 _ (List.mem_map.mpr ⟨x, hx, rfl⟩); omega, rfl⟩
theorem yq_maxV {f : Ev → Res} {env : Ev} {x : Val} {l : List Nat} {M : Nat} (h : YQ f env x) (hx : valD x = some (.list (natsD l))) (hm : maxI (l.map fun x : Nat => (x : Int)) = some (M : Int)) : YQ (dG (kPl oMax) [f]) env (.own (.fz (.int (M : Nat)))) := yq_G (b := false) (ys_cons h ys_nil) (by
  have e : valDs [x] = some [.list (natsD l)] := by simp only [valDs, hx, Option.bind_some, Option.map_some]
  simp only [kPl, e, Option.bind_some, oMax, natsD_ints, intsD_map, hm, Option.map_some])
theorem yq_addLL {f g : Ev → Res} {env : Ev} {a b : List Nat} (h : YQ f env (.own (.lst ((natsD a).map .fz)))) (h2 : YQ g env (.own (.lst ((natsD b).map .fz)))) (ha : a.length ≤ 1000) (hb : b.length ≤ 1000) : YQ (dG kAdd [f, g]) env (.own (.lst ((natsD (a ++ b)).map .fz))) := by
  refine yq_G (b := true) (ys_cons h (ys_cons h2 ys_nil)) ?_
  have k1 : kAddP [.own (.lst ((natsD a).map M.fz)), .own (.lst ((natsD b).map M.fz))] = none := by
    have hv : valDs [.own (.lst ((natsD a).map M.fz)), .own (.lst ((natsD b).map M.fz))] = some [.list (natsD a), .list (natsD b)] := by simp only [valDs, valD, frz_lst, Option.bind_some, Option.map_some]
    unfold kAddP
    simp only [kPl, hv, Option.bind_some]
    rfl
  have k2 : kAddT [.own (.lst ((natsD a).map M.fz)), .own (.lst ((natsD b).map M.fz))] = none := rfl
  have la : lv (.own (.lst ((natsD a).map M.fz))) = some (natsD a) := by
    unfold lv
    exact leaves_fz _
  have lb : lv (.own (.lst ((natsD b).map M.fz))) = some (natsD b) := by
    unfold lv
    exact leaves_fz _
  have k3 : kAddL [.own (.lst ((natsD a).map M.fz)), .own (.lst ((natsD b).map M.fz))] = some (.own (.lst ((natsD (a ++ b)).map .fz)), true) := by
    simp only [kAddL, la, lb, Option.bind_some]
    have : natsD a ++ natsD b = natsD (a ++ b) := by simp [natsD]
    rw [this, natsD_len, natsD_len, if_pos (by unfold SZ; omega)]
  unfold kAdd
  rw [k1, k2, k3]
  rfl
theorem eq_nilV {f : Ev → Res} {env : Ev} {x : Val} {l : List Nat} (h : YQ f env x) (hx : valD x = some (.list (natsD l))) : YQ (dG (kPl oEq) [f, dLst []]) env (.own (.fz (.bool (decide (l = []))))) := by
  have h2 : YQ (dLst []) env (.own (.lst ([] : List M))) := yq_Fn ys_nil rfl
  refine yq_G (b := false) (ys_cons h (ys_cons h2 ys_nil)) ?_
  have e : valDs [x, .own (.lst [])] = some [.list (natsD l), .list []] := by
    have : valD (.own (.lst [])) = some (.list []) := rfl
    simp only [valDs, hx, this, Option.bind_some, Option.map_some]
  have ok : eqOk (.list (natsD l)) (.list []) = true := eqOk_sh (k := 1) (sh_natsL _) (sh_lst (k := 0) fun x hx => by cases hx) (by decide)
  simp only [kPl, e, Option.bind_some, oEq, ok, if_true, Option.map_some]
  cases l <;> rfl
theorem ne_nilV {f : Ev → Res} {env : Ev} {x : Val} {l : List Nat} (h : YQ f env x) (hx : valD x = some (.list (natsD l))) : YQ (dG (kPl oNe) [f, dLst []]) env (.own (.fz (.bool (!decide (l = []))))) := by
  have h2 : YQ (dLst []) env (.own (.lst ([] : List M))) := yq_Fn ys_nil rfl
  refine yq_G (b := false) (ys_cons h (ys_cons h2 ys_nil)) ?_
  have e : valDs [x, .own (.lst [])] = some [.list (natsD l), .list []] := by
    have : valD (.own (.lst [])) = some (.list []) := rfl
    simp only [valDs, hx, this, Option.bind_some, Option.map_some]
  have ok : eqOk (.list (natsD l)) (.list []) = true := eqOk_sh (k := 1) (sh_natsL _) (sh_lst (k := 0) fun x hx => by cases hx) (by decide)
  simp only [kPl, e, Option.bind_some, oNe, ok, if_true, Option.map_some]
  cases l <;> rfl
theorem y4 {a b c d : Ev → Res} {env : Ev} {w x y z : PyData} (h1 : YQ a env (.own (.fz w))) (h2 : YQ b env (.own (.fz x))) (h3 : YQ c env (.own (.fz y))) (h4 : YQ d env (.own (.fz z))) : YQs [a, b, c, d] env [.own (.fz w), .own (.fz x), .own (.fz y), .own (.fz z)] := ys_cons h1 (ys_cons h2 (ys_cons h3 (ys_cons h4 ys_nil)))
theorem set_dv {i : Nat} {f : Ev → Res} {e : Dr → Ev} {P : M → Prop} (h : DV f e fun x => ∃ m, x = .own m ∧ P m) (hi : ∀ D, i < (e D).length) {D : Dr} (ok : Dr.Ok D) : ∃ m D2, Dr.Ok D2 ∧ P m ∧ dSet i f (e D) = .nx ((e D2).set i (some m)) := by
  obtain ⟨x, D2, q, ok2, ⟨m, rfl, p⟩, h1⟩ := h D ok
  refine ⟨m, D2, ok2, p, ?_⟩
  unfold dSet
  rw [h1]
  exact if_pos (hi D2)
theorem app_dv {s : Nat} {f : Ev → Res} {e : Dr → Ev} {ms : List M} {P : PyData → Prop} (h : DV f e fun x => ∃ m d, x = .own m ∧ frz m = some d ∧ P d) (hs : ∀ D, (e D)[s]? = some (some (.lst ms))) (hl : ms.length < SZ) {D : Dr} (ok : Dr.Ok D) : ∃ d D2, Dr.Ok D2 ∧ P d ∧ dEx (dApp s f) (e D) = .nx ((e D2).set s (some (.lst (ms ++ [.fz d])))) := by
  obtain ⟨x, D2, q, ok2, ⟨m, d, rfl, hd, p⟩, h1⟩ := h D ok
  refine ⟨d, D2, ok2, p, ?_⟩
  have e1 : dFr f (e D) = .ok (.own (.fz d)) (e D2) q := by
    unfold dFr
    rw [h1]
    simp only [hd]
  unfold dEx dApp
  simp only [isLst, hs, if_true, e1, wrAt, M.wr, appD, if_pos hl, Option.map_some]
theorem dv_ixO {s : Nat} {f : Ev → Res} {e : Dr → Ev} {ms : List M} {P : Int → Prop} {P' : PyData → Prop} (h : DV f e (IsI P)) (hs : ∀ D, (e D)[s]? = some (some (.lst ms))) (hp : ∀ i, P i → ∃ d, atI ms i = some (.fz d) ∧ P' d) : DV (dIxO s f) e fun x => ∃ m d, x = .own m ∧ frz m = some d ∧ P' d := fun D ok => by
  obtain ⟨x, D2, q, ok2, ⟨m, rfl, i, rfl, hi⟩, h1⟩ := h D ok
  obtain ⟨d, hd, p⟩ := hp i hi
  refine ⟨.own (.fz d), D2, q, ok2, ⟨.fz d, d, rfl, rfl, p⟩, ?_⟩
  unfold dIxO
  have hl : isLst (e D) s = true := by unfold isLst; rw [hs]
  rw [if_pos hl, h1]
  simp only [hs, hd]
theorem app_pop {s z : Nat} {f : Ev → Res} {e : Dr → Ev} {ms ns : List M} {P : Int → Prop} (h : DV f e (IsI P)) (hs : ∀ D, (e D)[s]? = some (some (.lst ms))) (hz : ∀ D, (e D)[z]? = some (some (.lst ns))) (hl : ns.length < SZ) (sz : s ≠ z) (hp : ∀ i, P i → ∃ k : Nat, ∃ d, i = k ∧ k < ms.length ∧ ms.length ≤ 1000 ∧ ms[k]? = some (.fz d)) {D : Dr} (ok : Dr.Ok D) :
    ∃ k d D2, Dr.Ok D2 ∧ k < ms.length ∧ ms[k]? = some (.fz d) ∧ dEx (dApp z (dPop s f)) (e D) = .nx (((e D2).set s (some (.lst (ms.eraseIdx k)))).set z (some (.lst (ns ++ [.fz d])))) := by
  obtain ⟨x, D2, q, ok2, ⟨m, rfl, i, rfl, hi⟩, h1⟩ := h D ok
  obtain ⟨k, d, rfl, hk, hb, hd⟩ := hp i hi
  refine ⟨k, d, D2, ok2, hk, hd, ?_⟩
  have hls : isLst (e D) s = true := by unfold isLst; rw [hs]
  have hlz : isLst (e D) z = true := by unfold isLst; rw [hz]
  have sx : seqIndex? (k : Int) ms.length = some k := by
    unfold seqIndex?
    first
      | (simp; omega)
      | (simp [hk]; done)
      | (split <;> simp <;> omega)
  have e1 : dPop s f (e D) = .ok (.own (.fz d)) ((e D2).set s (some (.lst (ms.eraseIdx k)))) .l := by
    unfold dPop
    rw [if_pos hls, h1]
    simp only [hs]
    rw [if_pos (by omega)]
    simp only [sx, hd]
  have e2 : dFr (dPop s f) (e D) = .ok (.own (.fz d)) ((e D2).set s (some (.lst (ms.eraseIdx k)))) .l := by
    unfold dFr
    rw [e1]
    simp only [frz]
  have hz2 : ((e D2).set s (some (.lst (ms.eraseIdx k))))[z]? = some (some (.lst ns)) := by
    rw [List.getElem?_set_ne sz]
    exact hz D2
  unfold dEx dApp
  simp only [hlz, if_true, e2, wrAt, hz2, M.wr, appD, if_pos hl, Option.map_some]
theorem ro_st {a rest : Ev → Out} {env env2 : Ev} {s : Nat} {Q : M → Prop} (h : a env = .nx env2) (k : RO s rest env2 Q) : RO s (dSeq a rest) env Q := by
  obtain ⟨m, D2, e2, h1, h2, h3, h4⟩ := k
  exact ⟨m, D2, e2, h1, h2, (out_seq h).trans h3, h4⟩
theorem ro_skip {t : Ev → Res} {a rest : Ev → Out} {env : Ev} {s : Nat} {Q : M → Prop} (ht : YQ t env (.own (.fz (.bool false)))) (k : RO s rest env Q) : RO s (dSeq (dIfS t a dNx) rest) env Q := ro_st ((out_ifF ht rfl).trans rfl) k
theorem erase_map {α β : Type} (f : α → β) : ∀ (l : List α) (j : Nat), (l.map f).eraseIdx j = (l.eraseIdx j).map f
  | [], _ => rfl
  | _ :: _, 0 => rfl
  | a :: l, j + 1 => by
    show f a :: (l.map f).eraseIdx j = f a :: (l.eraseIdx j).map f
    rw [erase_map f l j]
theorem erase_perm {α : Type} : ∀ (l : List α) (j : Nat) (h : j < l.length), (l[j] :: l.eraseIdx j).Perm l
  | a :: l, 0, _ => List.Perm.refl _
  | a :: l, j + 1, h => (List.Perm.swap a (l[j]'(by simpa using h)) (l.eraseIdx j)).trans ((erase_perm l j (by simpa using h)).cons a)
abbrev rsD (rs : List (List Nat)) : List PyData := rs.map fun r => .tuple (natsD r)
theorem ne_rows {f : Ev → Res} {env : Ev} {rs : List (List Nat)} (h : YQ f env (.vw (.lst ((rsD rs).map .fz)))) : YQ (dG (kPl oNe) [f, dLst []]) env (.own (.fz (.bool (!decide (rs = []))))) := by
  have h2 : YQ (dLst []) env (.own (.lst ([] : List M))) := yq_Fn ys_nil rfl
  refine yq_G (b := false) (ys_cons h (ys_cons h2 ys_nil)) ?_
  have e : valDs [.vw (.lst ((rsD rs).map .fz)), .own (.lst [])] = some [.list (rsD rs), .list []] := by
    have h1 : valD (.vw (.lst ((rsD rs).map .fz))) = some (.list (rsD rs)) := frz_lst _
    have h3 : valD (.own (.lst [])) = some (.list []) := rfl
    simp only [valDs, h1, h3, Option.bind_some, Option.map_some]
  have ok : eqOk (.list (rsD rs)) (.list []) = true := eqOk_sh (k := 2) (sh_lst (k := 1) fun x hx => by
    obtain ⟨r, _, rfl⟩ := List.mem_map.mp hx
    exact sh_nats (k := 0) r) (sh_lst (k := 1) fun x hx => by cases hx) (by decide)
  simp only [kPl, e, Option.bind_some, oNe, ok, if_true, Option.map_some]
  cases rs <;> rfl
theorem rsD_snoc (rs : List (List Nat)) (r : List Nat) : (rsD rs).map M.fz ++ [.fz (.tuple (natsD r))] = (rsD (rs ++ [r])).map .fz := by simp [rsD]
theorem dv_pickL {f g : Ev → Res} {e : Dr → Ev} {ds : List PyData} {P : M → Prop} (h : ∀ D, Dr.Ok D → YQ f (e D) (.own (.fz (.list ds)))) (ht : DV g e (IsI fun i => 0 ≤ i ∧ i < ds.length)) (hp : ∀ d ∈ ds, P (.fz d)) : DV (dFr (dIx f g)) e fun x => ∃ m, x = .own m ∧ P m := by
  refine (dv_fr (P := fun x => ∃ m, x = .own m ∧ P m) (dv_F (dvs_cons (P := (· = .fz (.list ds))) ((dv_q fun D ok => h D ok).imp fun x hx => ⟨_, hx, rfl⟩) (dvs_cons ht dvs_nil)) fun ms z => ?_))
  obtain ⟨m1, r1, e1, e2, m2, r2, e3, ⟨j, e4, h1, h2⟩, e5⟩ := z
  subst e1 e2 e3 e4 e5
  obtain ⟨x, hx, hj⟩ := atI_of (xs := ds) h1 h2
  refine ⟨.own (.fz x), ?_, _, x, rfl, rfl, _, rfl, hp x hx⟩
  show (atI ds j).map _ = _
  rw [hj]; rfl
theorem yq_addLD {f g : Ev → Res} {env : Ev} {a b : List PyData} (h : YQ f env (.own (.fz (.list a)))) (h2 : YQ g env (.own (.lst (b.map .fz)))) (hl : a.length + b.length ≤ SZ) : YQ (dFr (dG kAdd [f, g])) env (.own (.fz (.list (a ++ b)))) := by
  refine yq_fr (m := .lst ((a ++ b).map .fz)) (yq_G (b := true) (ys_cons h (ys_cons h2 ys_nil)) ?_) (frz_lst _)
  have k1 : kAddP [.own (.fz (.list a)), .own (.lst (b.map .fz))] = none := by
    have hv : valDs [.own (.fz (.list a)), .own (.lst (b.map .fz))] = some [.list a, .list b] := by
      have v1 : valD (.own (.fz (.list a))) = some (.list a) := rfl
      have v2 : valD (.own (.lst (b.map .fz))) = some (.list b) := frz_lst _
      simp only [valDs, v1, v2, Option.bind_some, Option.map_some]
    unfold kAddP
    simp only [kPl, hv, Option.bind_some]
    rfl
  have k2 : kAddT [.own (.fz (.list a)), .own (.lst (b.map .fz))] = none := rfl
  have lb : lv (.own (.lst (b.map M.fz))) = some b := by
    unfold lv
    exact leaves_fz _
  have la : lv (.own (.fz (.list a))) = some a := rfl
  have k3 : kAddL [.own (.fz (.list a)), .own (.lst (b.map .fz))] = some (.own (.lst ((a ++ b).map .fz)), true) := by
    simp only [kAddL, la, lb, Option.bind_some]
    rw [if_pos hl]
  unfold kAdd
  rw [k1, k2, k3]
  rfl
theorem flat1 {a : PyData} (k : Nat) : (List.replicate k [a]).flatten = List.replicate k a := by
  induction k with
  | zero => rfl
  | succ k ih => rw [List.replicate_succ, List.flatten_cons, ih]; rfl
theorem kmul_t {a : PyData} {k : Nat} (h2 : 2 ≤ k) (h3 : k ≤ 1000) : kMul [.own (.fz (.tuple [a])), .own (.fz (.int (k : Nat)))] = some (.own (.fz (.tuple (List.replicate k a))), true) := by
  have h1 : kMulP [.own (.fz (.tuple [a])), .own (.fz (.int (k : Nat)))] = none := rfl
  have h4 : kMulL [.own (.fz (.tuple [a])), .own (.fz (.int (k : Nat)))] = none := rfl
  have h5 : kMulT [.own (.fz (.tuple [a])), .own (.fz (.int (k : Nat)))] = some (.own (.fz (.tuple (List.replicate k a))), true) := by
    show (if decide (([a] : List PyData) ≠ []) && decide ((2 : Int) ≤ ((k : Nat) : Int)) && decide (((k : Nat) : Int) ≤ 1000) && decide (([a] : List PyData).length ≤ 1000) then some (Val.own (.fz (.tuple (List.replicate ((k : Nat) : Int).toNat [a]).flatten)), true) else none) = _
    rw [if_pos (by simp; omega), flat1]
    rfl
  unfold kMul
  rw [h1, h4, h5]
  rfl
theorem kmulA_t {a : PyData} {k : Nat} (h1 : 1 ≤ k) (h3 : k ≤ 1000) : kMulA [.own (.fz (.tuple [a])), .own (.fz (.int (k : Nat)))] = some (.own (.fz (.tuple (List.replicate k a))), true) := by
  unfold kMulA
  by_cases h2 : 2 ≤ k
  · rw [kmul_t h2 h3]
    rfl
  · have e : k = 1 := by omega
    subst e
    rfl
theorem nd_nats (l : List Nat) : ∀ x ∈ natsD l, noDict x = true := fun x hx => by
  obtain ⟨i, _, rfl⟩ := List.mem_map.mp hx
  rfl
theorem nd_rs (rn : List (List Nat)) : ∀ x ∈ rsD rn, noDict x = true := fun x hx => by
  obtain ⟨r, _, rfl⟩ := List.mem_map.mp hx
  exact noDict_tup (nd_nats r)
theorem RO.imp {s : Nat} {b : Ev → Out} {env : Ev} {Q Q' : M → Prop} (h : RO s b env Q) (k : ∀ m, Q m → Q' m) : RO s b env Q' := by
  obtain ⟨m, D2, e2, h1, h2, h3, h4⟩ := h
  exact ⟨m, D2, e2, h1, k m h2, h3, h4⟩
theorem getD_el {α : Type} {l : List α} {i : Nat} {d : α} (h : i < l.length) : l.getD i d = l[i] := by simp [h]
theorem nodup_rangeM {f : Nat → Nat} {n : Nat} (h : ∀ a b, a < n → b < n → f a = f b → a = b) : ((List.range n).map f).Nodup :=
  List.pairwise_map.mpr (List.Pairwise.imp_of_mem (fun ha hb hne e => hne (h _ _ (List.mem_range.mp ha) (List.mem_range.mp hb) e)) List.nodup_range)
theorem perm_sum {l m : List Int} (h : l.Perm m) : l.sum = m.sum := by
  induction h with
  | nil => rfl
  | cons x _ ih => rw [List.sum_cons, List.sum_cons, ih]
  | swap x y l => simp only [List.sum_cons]; omega
  | trans _ _ h1 h2 => rw [h1, h2]
theorem sum_addI {α : Type} (f g : α → Int) : ∀ l : List α, (l.map fun i => f i + g i).sum = (l.map f).sum + (l.map g).sum
  | [] => rfl
  | a :: l => by
    have := sum_addI f g l
    simp only [List.map_cons, List.sum_cons] at this ⊢
    omega
theorem sum_negI {α : Type} (f : α → Int) : ∀ l : List α, (l.map fun i => - f i).sum = - (l.map f).sum
  | [] => rfl
  | a :: l => by
    have := sum_negI f l
    simp only [List.map_cons, List.sum_cons] at this ⊢
    omega
theorem sum_le0 {α : Type} {f : α → Int} : ∀ {l : List α}, (∀ x ∈ l, f x ≤ 0) → (l.map f).sum ≤ 0
  | [], _ => Int.le_refl _
  | a :: l, h => by
    have := sum_le0 (l := l) fun x hx => h x (List.mem_cons_of_mem _ hx)
    have := h a List.mem_cons_self
    simp only [List.map_cons, List.sum_cons]
    omega
/-- a loop that leaves at the first item at which f says so -/
theorem runF_find {p : Tg} {b : Ev → Out} {A : Type} (I : Ev → Prop) (R : A → M) (f : PyData → Option A) : ∀ {ds : List PyData} {env : Ev},
    (∀ d ∈ ds, ∀ env, I env → ∃ e1, p d env = some e1 ∧ ((f d = none → ∃ e2, (b e1 = .nx e2 ∨ b e1 = .ct e2) ∧ I e2) ∧ ∀ a, f d = some a → ∃ e2, b e1 = .ret (R a) e2)) → I env →
    (ds.findSome? f = none → ∃ e2, runF p b ds env = .nx e2 ∧ I e2) ∧ ∀ a, ds.findSome? f = some a → ∃ e2, runF p b ds env = .ret (R a) e2
  | [], env, _, h => ⟨fun _ => ⟨env, rfl, h⟩, fun a z => by cases z⟩
  | d :: ds, env, hs, h => by
    obtain ⟨e1, h1, h2, h3⟩ := hs d List.mem_cons_self env h
    rw [List.findSome?_cons]
    cases e : f d with
    | none =>
      obtain ⟨e2, h4, h5⟩ := h2 e
      obtain ⟨k1, k2⟩ := runF_find I R f (ds := ds) (env := e2) (fun d hd => hs d (List.mem_cons_of_mem _ hd)) h5
      have st : runF p b (d :: ds) env = runF p b ds e2 := by
        rw [runF]
        rcases h4 with h4 | h4 <;> simp only [h1, h4]
      rw [st]
      exact ⟨k1, k2⟩
    | some a =>
      obtain ⟨e2, h4⟩ := h3 a e
      refine ⟨fun z => by simp at z, fun a' z => ?_⟩
      have : a = a' := by simpa using z
      subst this
      exact ⟨e2, by rw [runF]; simp only [h1, h4]⟩
theorem yq_intB {f : Ev → Res} {env : Ev} {b : Bool} (h : YQ f env (.own (.fz (.bool b)))) : YQ (dG (kPl oInt) [f]) env (.own (.fz (.int (if b then 1 else 0)))) := yq_p1 h rfl
def isNoD : PyData → Bool
  | .none => true
  | _ => false
theorem yq_isNoneD {f : Ev → Res} {env : Ev} {d : PyData} {b : Bool} (h : YQ f env (.own (.fz d))) (hb : b = isNoD d) : YQ (dG (kIs false) [f, dLit .none]) env (.own (.fz (.bool b))) := yq_G (b := false) (ys_cons h (ys_cons yq_lit ys_nil)) (by
  subst hb
  cases d <;> rfl)
/-- x.index(y), x a tuple of numbers -/
theorem yq_idxT {f g : Ev → Res} {env : Ev} {l : List Nat} {k : Nat} (h : YQ f env (.own (.fz (.tuple (natsD l))))) (hg : YQ g env (.own (.fz (.int (k : Nat))))) (hk : k ∈ l) : YQ (dIdx f g) env (.own (.fz (.int (l.idxOf k : Nat)))) := by
  obtain ⟨q0, e0, _⟩ := id h
  have hi := List.idxOf_lt_length_of_mem hk
  have fi : (l.map fun x : Nat => (x : Int)).findIdx? (fun y => decide (y = ((k : Nat) : Int))) = some (l.idxOf k) := by
    rw [List.findIdx?_eq_some_iff_getElem]
    refine ⟨by rw [List.length_map]; exact hi, ?_, fun j hj => ?_⟩
    · rw [List.getElem_map, List.getElem_idxOf hi]
      simp
    · rw [List.getElem_map]
      have hjl : j < l.length := by omega
      have := List.not_of_lt_findIdx (p := fun y => y == k) (xs := l) (i := j) hj
      have : l[j] ≠ k := fun z => by simp [z] at this
      simp only [decide_eq_true_eq]
      omega
  have z : YQ (dG kTIndex [f, g]) env (.own (.fz (.int (l.idxOf k : Nat)))) := yq_G (b := false) (ys_cons h (ys_cons hg ys_nil)) (by
    have e1 : tv (.own (.fz (.tuple (natsD l)))) = some ((l.map fun x : Nat => (x : Int)).map .int) := congrArg some (natsD_ints l)
    have e2 : valD (.own (.fz (.int (k : Nat)))) = some (.int (k : Nat)) := rfl
    simp only [kTIndex, e1, Option.bind_some, intsD_map, e2, fi, Option.map_some])
  obtain ⟨q, e, nn⟩ := z
  refine ⟨q, ?_, nn⟩
  unfold dIdx dMtT
  rw [if_neg (by rw [e0]; simp [lsR, lsV]), if_pos (by rw [e0]; rfl)]
  exact e
theorem isInT_nats (x : Nat) (l : List Nat) : oInB [.int (x : Nat), .tuple (natsD l)] = some (decide (x ∈ l)) := by
  show (if (scalD (.int (x : Nat)) && (natsD l).all scalD) = true then some (isIn (.int (x : Nat)) (natsD l)) else none) = _
  rw [scal_nats]
  refine Eq.trans (if_posb (c := true && true) rfl _ _) ?_
  rw [isIn_nats]
theorem yq_ninT {f g : Ev → Res} {env : Ev} {x : Nat} {l : List Nat} (h : YQ f env (.own (.fz (.int (x : Nat))))) (h2 : YQ g env (.own (.fz (.tuple (natsD l))))) : YQ (dG (kPl oNin) [f, g]) env (.own (.fz (.bool (!decide (x ∈ l))))) := yq_p2 h h2 (by
  unfold oNin
  rw [isInT_nats]
  rfl)
/-- what a datum of numbers tells -/
def unN : PyData → List Nat
  | .tuple ds => ds.map fun | .int i => i.toNat | _ => 0
  | _ => []
theorem unN_nats (r : List Nat) : unN (.tuple (natsD r)) = r := by
  show (natsD r).map _ = r
  unfold natsD
  rw [List.map_map]
  refine (List.map_congr_left fun x _ => ?_).trans (List.map_id r)
  exact Int.toNat_natCast x
/-- a frozen list and a new one, not frozen -/
theorem yq_addLx {f g : Ev → Res} {env : Ev} {a b : List PyData} (h : YQ f env (.own (.fz (.list a)))) (h2 : YQ g env (.own (.lst (b.map .fz)))) (hl : a.length + b.length ≤ SZ) : YQ (dG kAdd [f, g]) env (.own (.lst ((a ++ b).map .fz))) := by
  refine yq_G (b := true) (ys_cons h (ys_cons h2 ys_nil)) ?_
  have k1 : kAddP [.own (.fz (.list a)), .own (.lst (b.map .fz))] = none := by
    have hv : valDs [.own (.fz (.list a)), .own (.lst (b.map .fz))] = some [.list a, .list b] := by
      have v1 : valD (.own (.fz (.list a))) = some (.list a) := rfl
      have v2 : valD (.own (.lst (b.map .fz))) = some (.list b) := frz_lst _
      simp only [valDs, v1, v2, Option.bind_some, Option.map_some]
    unfold kAddP
    simp only [kPl, hv, Option.bind_some]
    rfl
  have k2 : kAddT [.own (.fz (.list a)), .own (.lst (b.map .fz))] = none := rfl
  have lb : lv (.own (.lst (b.map M.fz))) = some b := by
    unfold lv
    exact leaves_fz _
  have la : lv (.own (.fz (.list a))) = some a := rfl
  have k3 : kAddL [.own (.fz (.list a)), .own (.lst (b.map .fz))] = some (.own (.lst ((a ++ b).map .fz)), true) := by
    simp only [kAddL, la, lb, Option.bind_some]
    rw [if_pos hl]
  unfold kAdd
  rw [k1, k2, k3]
  rfl
/-- x.index(y), x a list of numbers -/
theorem yq_idxL {f g : Ev → Res} {env : Ev} {v : Val} {l : List Nat} {x : Nat} (h : YQ f env v) (hx : lv v = some (natsD l)) (hv : lsV v = true) (hg : YQ g env (.own (.fz (.int (x : Nat))))) (hm : x ∈ l) : YQ (dIdx f g) env (.own (.fz (.int (l.idxOf x : Nat)))) := by
  obtain ⟨q0, e0, _⟩ := id h
  obtain ⟨q, e, nn⟩ := yq_index1 h hx hv hg hm
  refine ⟨q, ?_, nn⟩
  unfold dIdx
  rw [if_pos (by rw [e0]; exact hv)]
  exact e
def fzO : Option PyData → Option M
  | none => none
  | some d => some (.fz d)
end Q

set_option Elab.async false
set_option linter.all false
set_option maxRecDepth 100000
set_option maxHeartbeats 4000000
/-! a, b, c = (d, e, f) for names of any kind. -/
namespace Q
open PySem PySem.Spec PyProof.Rows L2
section
variable {X : Cx} {io : Nat → Bool} {f g h : Ev → Res} {pos : Pos}
theorem ss_par3c {i j l : Nat} {x y z : Str} {b c d : Expr} {px py pz pt : Pos} {kt k2 pt2} (hc : X.calm = true) (hN : X.N.Nodup) (ha : SA X (evs [f, g, h]) [b, c, d]) (hi : X.N[i]? = some x := by rfl) (hj : X.N[j]? = some y := by rfl) (hl : X.N[l]? = some z := by rfl)
    (hx : Loc X.env.scope x := by first | exact Or.inl rfl | exact Or.inr rfl) (hy : Loc X.env.scope y := by first | exact Or.inl rfl | exact Or.inr rfl) (hz : Loc X.env.scope z := by first | exact Or.inl rfl | exact Or.inr rfl)
    (fx : X.fn x = true ∨ X.env.scope.names.lookup x = some .local := by first | exact .inl rfl | exact .inr rfl | assumption) (fy : X.fn y = true ∨ X.env.scope.names.lookup y = some .local := by first | exact .inl rfl | exact .inr rfl | assumption) (fz : X.fn z = true ∨ X.env.scope.names.lookup z = some .local := by first | exact .inl rfl | exact .inr rfl | assumption)
    (hio : io i = false := by rfl) (hjo : io j = false := by rfl) (hlo : io l = false := by rfl)
    (hs : swapsWithSole [.Tuple [.Name x px, .Name y py, .Name z pz] kt pt] (.Tuple [b, c, d] k2 pt2) pos.line X.env = pure false := by rfl) (hw : swappedStores [.Tuple [.Name x px, .Name y py, .Name z pz] kt pt] (.Tuple [b, c, d] k2 pt2) X.env = pure none := by rfl)
    (h1 : (assignEach [.Tuple [.Name x px, .Name y py, .Name z pz] kt pt] X.env).map (·.2) = [assign (.Tuple [.Name x px, .Name y py, .Name z pz] kt pt) X.env] := by rfl) (hn : (assignEach [.Name x px, .Name y py, .Name z pz] X.env).length = 3 := by rfl) (hst : (assignEach [.Name x px, .Name y py, .Name z pz] X.env).findIdx? (·.1) = none := by rfl)
    (e1 : (assignEach [.Name x px, .Name y py, .Name z pz] X.env).map (·.2) = assign (.Name x px) X.env :: (assignEach [.Name y py, .Name z pz] X.env).map (·.2) := by rfl) (e2 : (assignEach [.Name y py, .Name z pz] X.env).map (·.2) = assign (.Name y py) X.env :: (assignEach [.Name z pz] X.env).map (·.2) := by rfl) (e3 : (assignEach [.Name z pz] X.env).map (·.2) = assign (.Name z pz) X.env :: (assignEach [] X.env).map (·.2) := by rfl) :
    SS X io (dPar3 i j l f g h) (.Assign [.Tuple [.Name x px, .Name y py, .Name z pz] kt pt] (.Tuple [b, c, d] k2 pt2) pos) := fun W tk => PS.imp (ps_asg ((tup_ ha : SE X (dTup [f, g, h]) (.Tuple [b, c, d] k2 pt2)) W tk) (pg_tup hc (pgs_cons (pg_name hN hi hx fx) (pgs_cons (pg_name hN hj hy fy) (pgs_cons (pg_name hN hl hz fz) pgs_nil e3) e2) e1) hn hst) hs hw h1) fun D σ H ⟨Z, O, env, I, hh⟩ => by
  refine ⟨Z, O, env, I, ?_⟩
  unfold dPar3 at hh
  split at hh
  · rename_i m n o e1 q ef
    have et : dTup [f, g, h] env = .ok (.own (mkTup [m, n, o])) e1 q.n := by
      unfold dTup dF
      rw [ef]
      rfl
    rw [et]
    split at hh
    · rename_i hlt
      intro v H' p
      obtain ⟨O', F, I', r, nd, nz, st⟩ := p.own1
      obtain ⟨a, xs, rfl, hq, rs⟩ := r.unTup
      cases rs with
      | cons r1 rr =>
        cases rr with
        | cons r2 rr =>
          cases rr with
          | cons r3 rr =>
            cases rr
            rw [List.append_nil] at *
            obtain ⟨O2, I2, st2, gg⟩ := I'.put2 hlt.1 r1 nd nz st
            have nd2 := (List.nodup_append.mp nd).2.1
            obtain ⟨O3, I3, st3, gg2⟩ := I2.put2 (i := j) (by rw [List.length_set]; exact hlt.2.1) (r2.imp gg) nd2 (fun a ha => nz a (List.mem_append_right _ ha)) st2
            obtain ⟨O4, I4, st4⟩ := I3.put (i := l) (by rw [List.length_set, List.length_set]; exact hlt.2.2) ((r3.imp gg).imp gg2) (List.nodup_append.mp nd2).2.1 (fun a ha => nz a (List.mem_append_right _ (List.mem_append_right _ ha))) st3
            exact ⟨a, _, rfl, hq.t, rfl, _, _, rfl, _, _, rfl, _, _, rfl, rfl, hh _ _ ⟨⟨O4, I4, st4⟩, (Held.set hio).trans ((Held.set hjo).trans (Held.set hlo))⟩⟩
    · exact hh.elim
  · exact hh.elim
  · rename_i c e1 ef
    have et : dTup [f, g, h] env = .exn c e1 := by
      unfold dTup dF
      rw [ef]
    rw [et]
    exact EndS.exn hh
  · exact hh.elim
end
end Q

set_option Elab.async false
set_option linter.all false
set_option maxRecDepth 100000
set_option maxHeartbeats 4000000
/-! max of a list of data. -/
namespace Q
open PySem PySem.Spec PyProof.Rows L2
theorem maxD_mem (d : PyData) (ds : List PyData) : PySem.W.maxD d ds ∈ d :: ds := by
  unfold PySem.W.maxD
  induction ds generalizing d with
  | nil => exact List.mem_cons_self
  | cons z zs ih =>
    rw [List.foldl_cons]
    have this := ih (if PySem.W.dataLt d z then z else d)
    rcases List.mem_cons.mp this with e | hm
    · rw [e]
      split
      · exact List.mem_cons_of_mem _ List.mem_cons_self
      · exact List.mem_cons_self
    · exact List.mem_cons_of_mem _ (List.mem_cons_of_mem _ hm)
section
variable {X : Cx}
theorem callv_maxD (hc : X.calm = true) (hu : X.A.units + 65 < cLine) : CallV X (.builtin "max") (kPl (oBest PySem.W.maxD)) :=
  callv_best hc hu maxD_mem fun hh {st l vs x xs as QQ} hl hr ha hd h => PySem.W.max_list_data hh hl hr ha hd h
def kMaxA (xs : List Val) : Option (Val × Bool) := (kPl oMax xs).orElse fun _ => kPl (oBest PySem.W.maxD) xs
theorem callv_maxA (hc : X.calm = true) (hu : X.A.units + 65 < cLine) : CallV X (.builtin "max") kMaxA := (callv_max hc).or (callv_maxD hc hu)
end
/-- nothing is greater than the greatest -/
theorem maxD_most {d : PyData} {ds : List PyData} : ∀ x ∈ d :: ds, PySem.W.dataLt (PySem.W.maxD d ds) x = false := by
  have irr : ∀ x, PySem.W.dataLt x x = false := fun x => PyProof.Rows.lex_irrefl (O := PyProof.Rows.itemOrd) _
  have tr : ∀ x y z, PySem.W.dataLt x y = true → PySem.W.dataLt y z = true → PySem.W.dataLt x z = true := fun x y z => PyProof.Rows.lex_trans (O := PyProof.Rows.itemOrd) _ _ _
  have key : ∀ (ds : List PyData) (d : PyData) (seen : List PyData), (∀ x ∈ seen, PySem.W.dataLt d x = false) → ∀ x, x ∈ seen ∨ x ∈ d :: ds → PySem.W.dataLt (PySem.W.maxD d ds) x = false := by
    intro ds
    induction ds with
    | nil =>
      intro d seen h x hx
      rcases hx with hx | hx
      · exact h x hx
      · rw [List.mem_singleton.mp hx]; exact irr d
    | cons y ds ih =>
      intro d seen h x hx
      show PySem.W.dataLt (PySem.W.maxD (if PySem.W.dataLt d y = true then y else d) ds) x = false
      by_cases hy : PySem.W.dataLt d y = true
      · rw [if_pos hy]
        refine ih y (d :: seen) (fun z hz => ?_) x ?_
        · cases hzy : PySem.W.dataLt y z with
          | false => rfl
          | true =>
            have hzd := tr d y z hy hzy
            rcases List.mem_cons.mp hz with e | hz
            · rw [e, irr] at hzd; cases hzd
            · rw [h z hz] at hzd; cases hzd
        · rcases hx with hx | hx
          · exact .inl (List.mem_cons_of_mem _ hx)
          · rcases List.mem_cons.mp hx with e | hx
            · exact .inl (by rw [e]; exact List.mem_cons_self)
            · exact .inr hx
      · have hy : PySem.W.dataLt d y = false := by simpa using hy
        rw [hy]
        refine ih d (y :: seen) (fun z hz => ?_) x ?_
        · rcases List.mem_cons.mp hz with e | hz
          · rw [e]; exact hy
          · exact h z hz
        · rcases hx with hx | hx
          · exact .inl (List.mem_cons_of_mem _ hx)
          · rcases List.mem_cons.mp hx with e | hx
            · exact .inr (by rw [e]; exact List.mem_cons_self)
            · rcases List.mem_cons.mp hx with e | hx
              · exact .inl (by rw [e]; exact List.mem_cons_self)
              · exact .inr (List.mem_cons_of_mem _ hx)
  intro x hx
  exact key ds d [] (fun _ h => by cases h) x (.inr hx)
theorem yq_maxT {f : Ev → Res} {env : Ev} {x : Val} {r : PyData} {ts : List (List Int)} {t : List Int} (h : YQ f env x) (hx : valD x = some (.list ((t :: ts).map fun l => .tuple (l.map .int)))) (hr : PySem.W.maxD (.tuple (t.map .int)) (ts.map fun l => .tuple (l.map .int)) = r) : YQ (dG kMaxA [f]) env (.own (.fz r)) := yq_G (b := false) (ys_cons h ys_nil) (by
  have e : valDs [x] = some [.list ((t :: ts).map fun l => .tuple (l.map .int))] := by simp only [valDs, hx, Option.bind_some, Option.map_some]
  have e1 : kPl oMax [x] = none := by
    simp only [kPl, e, Option.bind_some, oMax, List.map_cons]
    rfl
  have al : alikes ((t :: ts).map fun l => .tuple (l.map .int)) = true := by
    unfold alikes
    rw [Bool.and_eq_true, List.all_eq_true, List.all_eq_true]
    refine ⟨fun a ha => ?_, fun a ha => ?_⟩
    · rw [List.all_eq_true]
      intro b hb
      obtain ⟨p, _, rfl⟩ := List.mem_map.mp ha
      obtain ⟨q, _, rfl⟩ := List.mem_map.mp hb
      exact alike_intsD p q
    · obtain ⟨p, _, rfl⟩ := List.mem_map.mp ha
      rfl
  have sh : SeqAt.shaped (.list ((t :: ts).map fun l => .tuple (l.map .int))) = true := sh_shaped (k := 2) (sh_lst (k := 1) fun a ha => by
    obtain ⟨p, _, rfl⟩ := List.mem_map.mp ha
    exact sh_tup (k := 0) fun y hy => by
      obtain ⟨i, _, rfl⟩ := List.mem_map.mp hy
      exact sh_int) (by decide)
  have nl : noL r = true := by
    have hm := maxD_mem (.tuple (t.map .int)) (ts.map fun l => .tuple (l.map .int))
    rw [hr, ← List.map_cons (f := fun l : List Int => PyData.tuple (l.map .int))] at hm
    obtain ⟨p, _, rfl⟩ := List.mem_map.mp hm
    exact noLs_ints p
  have e2 : kPl (oBest PySem.W.maxD) [x] = some (.own (.fz r), false) := by
    have : oBest PySem.W.maxD [.list ((t :: ts).map fun l => .tuple (l.map .int))] = some r := by
      rw [List.map_cons] at al sh ⊢
      show (if (alikes _ && SeqAt.shaped _ && noL (PySem.W.maxD (.tuple (t.map .int)) (ts.map fun l => .tuple (l.map .int)))) = true then some (PySem.W.maxD (.tuple (t.map .int)) (ts.map fun l => .tuple (l.map .int))) else none) = some r
      rw [hr, al, sh, nl]
      rfl
    simp only [kPl, e, Option.bind_some, this, Option.map_some]
  unfold kMaxA
  rw [e1, e2]; rfl)
end Q

set_option Elab.async false
set_option linter.all false
set_option maxRecDepth 100000
set_option maxHeartbeats 4000000
/-! A dict written out: {k: v, ..}, and {..}.get(x). -/
namespace Q
open PySem PySem.Spec PyProof.Rows L2
/-! ### {k: v, ..} -/
def pairsOf : List Val → Option (List (Key × PyData))
  | [] => some []
  | .own (.fz kd) :: .own (.fz d) :: r => (match keyD kd, pairsOf r with
    | some k, some t => some ((k, d) :: t)
    | _, _ => none)
  | _ => none
def mergeD (t : List (Key × PyData)) : List (Key × PyData) := t.foldl (fun acc p => putD acc p.1 p.2) []
def flatF : List ((Ev → Res) × (Ev → Res)) → List (Ev → Res)
  | [] => []
  | (f, g) :: r => f :: g :: flatF r
def flatV : List (Key × V) → List V
  | [] => []
  | (k, v) :: r => kV k :: v :: flatV r
def disp2 : List Val → Ev → Ql → Res
  | _ :: xs, e, q => (match pairsOf xs with
    | some t => if t.length ≤ 15 then .ok (.own (dicM (mergeD t))) e q.n else .stuck
    | none => .stuck)
  | [], _, _ => .stuck
def dDisp (ps : List ((Ev → Res) × (Ev → Res))) : Ev → Res := fun env => match evs (dDic0 :: flatF ps) env with
  | .ok xs e q => disp2 xs e q
  | .exn c e => .exn c e
  | .stuck => .stuck
section
variable {K : PySem.W.Frag} {mg : Str → Option Value} {Z : Addr → Prop} {O : List Addr} {env env1 : Ev} {σ : L2.St} {H H' : Hp} {G Gv : Addr → Prop}
theorem pairs_vals : ∀ {xs : List Val} {t : List (Key × PyData)} {vs : List V} {F : List Addr}, pairsOf xs = some t → RVs K H G Gv vs xs F → ∃ kvs, vs = flatV kvs ∧ RT K H G kvs t ∧ F = []
  | [], _, _, _, h, r => by
    cases h
    obtain ⟨e1, e2⟩ := r.nilF
    exact ⟨[], e1, .nil, e2⟩
  | [_], _, _, _, h, _ => by
    unfold pairsOf at h
    split at h
    · rename_i e; cases e
    · rename_i e; cases e
    · cases h
  | x :: y :: r, t, vs, F, h, rv => by
    unfold pairsOf at h
    split at h
    · rename_i e; cases e
    · rename_i kd d r' e
      injection e with e1 e2
      injection e2 with e2 e3
      subst e1 e2 e3
      split at h
      · rename_i k t' ek et
        cases h
        cases rv with
        | own a1 b1 =>
          cases b1 with
          | own a2 b2 =>
            obtain ⟨ra, fa⟩ := a1.fzD
            obtain ⟨rb, fb⟩ := a2.fzD
            obtain ⟨kvs, e4, rt, e5⟩ := pairs_vals et b2
            refine ⟨(k, _) :: kvs, ?_, .cons rb rt, ?_⟩
            · rw [e4, keyD_V ra ek]; rfl
            · rw [fa, fb, e5]; rfl
      · cases h
    · cases h
theorem RT.merge {kvs : List (Key × V)} {t : List (Key × PyData)} (r : RT K H G kvs t) : ∀ {a : List (Key × V)} {b : List (Key × PyData)}, RT K H G a b → RT K H G (mergeK a kvs) (t.foldl (fun acc p => putD acc p.1 p.2) b) := by
  induction r with
  | nil => exact fun q => q
  | cons h r ih => exact fun q => ih (q.put h)
/-- a new dict that is held is filled -/
theorem PostL.fill {vs : List V} {xs : List Val} {v : V} {x : Val} {t : List (Key × PyData)} {q : Ql} {p : Addr} (pl : PostL K Z O env σ H (.ref p :: vs) H' (.own (dicM []) :: xs) env1 q) (hp : H p = none) (et : pairsOf xs = some t) :
    H' p = some (.dK []) ∧ ∃ kvs, vs = flatV kvs ∧ kvs.length = t.length ∧ Post K Z O env σ H (.ref p) (upd H' p (.dK (mergeK [] kvs))) (.own (dicM (mergeD t))) env1 q.n := by
  obtain ⟨O', F, I', r, nd, nz, st, qu, pp⟩ := pl.ex
  cases r with
  | own h hr =>
    have key : ∀ {G : Addr → Prop} {m : M} {Fp : List Addr}, RM K H' G (.ref p) m Fp → m = dicM [] → H' p = some (.dK []) ∧ Fp = [p] := by
      intro G m Fp h e
      cases h with
      | dK ha rms =>
        rename_i kvs ms F
        unfold dicM at e
        injection e with e1 e2
        have : kvs = [] := List.map_eq_nil_iff.mp e1
        subst this
        cases rms
        exact ⟨ha, rfl⟩
      | fz _ => cases e
      | lst _ _ => cases e
      | tup _ _ => cases e
      | dT _ _ => cases e
    obtain ⟨hd, e1⟩ := key h rfl
    obtain ⟨kvs, ev, rt, eF⟩ := pairs_vals et hr
    subst e1 eF
    rw [List.append_nil] at *
    refine ⟨hd, kvs, ev, rt.len, ⟨O', [p], ?_, ?_, nd, nz, ⟨fun a o n e => ?_⟩, fun z a o e => ?_, (fun z => (qn_p z).elim)⟩⟩
    · obtain ⟨Fs, sl, e⟩ := I'.sl
      have pO : p ∉ O' := fun z => I'.nz p z (.inr List.mem_cons_self)
      have om : OM H' [p] := OM.of fun a ha => by
        rw [List.mem_singleton.mp ha]
        exact ⟨_, hd, True.intro⟩
      have key : ∀ {env : Ev} {σ : L2.St} {Fs : List (List Addr)}, (∀ a ∈ Fs.flatten, a ≠ p) → Slots K H' (fun a => ¬ Zp Z [p] a ∧ a ∉ O') env σ Fs → Slots K (upd H' p (.dK (mergeK [] kvs))) (fun a => ¬ Zp Z [p] a ∧ a ∉ O') env σ Fs := by
        intro env σ Fs hf s
        induction s with
        | nil => exact .nil
        | non _ ih => exact .non (ih fun a ha => hf a (by rw [List.flatten_cons]; exact List.mem_append.mpr (.inr ha)))
        | som h _ ih =>
          refine .som (h.step (O := [p]) om (fun a g z => g.1 (.inr z)) (fun a ha z => hf a (by rw [List.flatten_cons]; exact List.mem_append.mpr (.inl ha)) (List.mem_singleton.mp z)) (fun a o n e => by
            rw [upd_ne (fun z => n (by rw [z]; exact List.mem_cons_self))]; exact e) fun a o g e => g) (ih fun a ha => hf a (by rw [List.flatten_cons]; exact List.mem_append.mpr (.inr ha)))
      refine ⟨⟨Fs, key (fun a ha z => pO (by rw [← z, ← e]; exact ha)) sl, e⟩, I'.nd, I'.nz, fun a z => ?_⟩
      by_cases q : a = p
      · exact ⟨_, by rw [q]; exact upd_same⟩
      · obtain ⟨o, e⟩ := I'.zt a z
        exact ⟨o, by rw [upd_ne q]; exact e⟩
    · have om : OM H' [p] := OM.of fun a ha => by
        rw [List.mem_singleton.mp ha]
        exact ⟨_, hd, True.intro⟩
      have r2 : RT K (upd H' p (.dK (mergeK [] kvs))) (fun a => ¬ Z a ∧ a ∉ O' ∧ a ∉ [p]) kvs t := rt.step (O := [p]) om (fun a g z => g.2.2 z) (fun a o n e => by
        rw [upd_ne (fun z => n (by rw [z]; exact List.mem_cons_self))]; exact e) fun a o g e => g
      have z := RVs.own (Gv := fun a => ¬ Z a) (F := [p]) (F' := []) ((RT.merge r2 .nil).rm upd_same) .nil
      rw [List.append_nil] at z
      exact z
    · have np : a ≠ p := fun z => by rw [z, hp] at e; cases e
      rw [upd_ne np]
      exact st.keep a o n e
    · have np : a ≠ p := fun z => by rw [z, hp] at e; cases e
      rw [upd_ne np]
      exact qu (qn_l z) a o e
theorem tul_pairs {W : WX} : ∀ (ps : List ((Ev → Res) × (Ev → Res))) {σ : L2.St} {H : Hp} {R : List V → Hp → Prop} {Q : List (V × V) → Hp → Prop}, TUL K mg W (evs (flatF ps)) σ H R → (∀ vs H', R vs H' → ∀ pv : List (V × V), vs = pv.flatMap (fun p => [p.1, p.2]) → Q pv H') →
    tPairs (ps.map fun p => (TU K mg W p.1, TU K mg W p.2)) σ H Q
  | [], _, _, _, _, h, hq => hq _ _ (tul_nil h) [] rfl
  | (f, g) :: ps, _, _, _, _, h, hq => tu_mono (tu_cons h) fun v H1 h1 => tu_mono (tu_cons h1) fun w H2 h2 => tul_pairs ps h2 fun vs H' r pv e => hq _ _ r ((v, w) :: pv) (by rw [e]; rfl)
theorem flat_pairs : ∀ {pv : List (V × V)} {kvs : List (Key × V)}, pv.flatMap (fun p => [p.1, p.2]) = flatV kvs → pv = kvs.map fun kv => (kV kv.1, kv.2)
  | [], [], _ => rfl
  | (a, b) :: r, (k, v) :: s, h => by
    simp only [List.flatMap_cons, List.cons_append, List.nil_append, flatV] at h
    injection h with h1 h
    injection h with h2 h
    rw [List.map_cons, ← flat_pairs h, h1, h2]
  | [], _ :: _, h => by cases h
  | _ :: _, [], h => by cases h
end
section
variable {X : Cx} {f g : Ev → Res} {e a : Expr} {pos apos cpos : Pos}
/-- the pairs of a display, one after the other -/
inductive DPs (X : Cx) : List ((Ev → Res) × (Ev → Res)) → List (Option Expr) → List Expr → Prop
  | nil : DPs X [] [] []
  | cons {f g : Ev → Res} {ps : List ((Ev → Res) × (Ev → Res))} {k v : Expr} {ks : List (Option Expr)} {vs : List Expr} : SE X f k → SE X g v → DPs X ps ks vs → DPs X ((f, g) :: ps) (some k :: ks) (v :: vs)
theorem DPs.pps {W : WX} (tk : Takes X W) : ∀ {ps : List ((Ev → Res) × (Ev → Res))} {ks : List (Option Expr)} {vs : List Expr}, DPs X ps ks vs → PPs X pos ks vs (ps.map fun p => (TU X.K X.mg W p.1, TU X.K X.mg W p.2))
  | _, _, _, .nil => pps_nil
  | _, _, _, .cons h1 h2 r => pps_cons (h1 W tk) (h2 W tk) (DPs.pps tk r)
theorem se_disp {ps : List ((Ev → Res) × (Ev → Res))} {ks : List (Option Expr)} {vs : List Expr} (h : DPs X ps ks vs) (hall : ks.all (·.isSome) = true := by rfl) (hl : ks.length = vs.length := by rfl) (h0 : ks ≠ [] := by exact fun z => nomatch z) (h15 : ks.length ≤ 15 := by decide) :
    SE X (dDisp ps) (.Dict ks vs pos) := fun W tk => PE.imp (pe_disp (h.pps tk) hall hl h0 h15) fun σ H Q ⟨Z, O, env, I, hd⟩ => fun p hn => by
  have hT : TUL X.K X.mg W (evs (dDic0 :: flatF ps)) σ H fun vs H2 => ∀ ws, vs = .ref p :: ws → H2 p = some (.dK []) ∧ ∃ kvs : List (Key × V), ws = flatV kvs ∧ kvs.length ≤ 15 ∧ Q (.ref p) (upd H2 p (.dK (mergeK [] kvs))) := by
    refine ⟨Z, O, env, I, ?_⟩
    unfold dDisp at hd
    cases ev : evs (dDic0 :: flatF ps) env with
    | stuck => rw [ev] at hd; exact hd
    | exn c e1 => rw [ev] at hd; exact hd
    | ok xs e1 q =>
      rw [ev] at hd
      intro vs H2 pl ws ew
      subst ew
      cases xs with
      | nil => exact hd.elim
      | cons x xs =>
        have hx : x = .own (dicM []) := by
          unfold evs at ev
          simp only [dDic0] at ev
          cases er : evs (flatF ps) env with
          | stuck => simp only [er] at ev; cases ev
          | exn c e1 => simp only [er] at ev; cases ev
          | ok xs e2 q2 => simp only [er] at ev; cases ev; rfl
        subst hx
        simp only [disp2] at hd
        cases et : pairsOf xs with
        | none => simp only [et] at hd
        | some t =>
          simp only [et] at hd
          by_cases hl15 : t.length ≤ 15
          · rw [if_pos hl15] at hd
            obtain ⟨h1, kvs, h2, h3, h4⟩ := pl.fill (v := .ref p) (x := .own (dicM [])) hn et
            exact ⟨h1, kvs, h2, by omega, hd _ _ h4⟩
          · rw [if_neg hl15] at hd
            exact hd.elim
  obtain ⟨Z0, O0, env0, I0, h0'⟩ := tu_cons hT
  have h1 := h0' _ _ (new_dic I0 hn)
  exact tul_pairs ps h1 fun vs H' r pv e => by
    obtain ⟨a1, kvs, a2, a3, a4⟩ := r vs rfl
    exact ⟨a1, kvs, flat_pairs (by rw [← e, a2]), a3, a4⟩
/-! ### {..}.get(x) -/
def getX2 : ResL → Res
  | .ok [.own (.dK ks ms), .own (.fz kd)] e2 q => (match keyD kd, leaves ms with
    | some k, some ds => .ok (.own (.fz ((findD (ks.zip ds) k).getD .none))) e2 q.n
    | _, _ => .stuck)
  | .ok _ _ _ => .stuck
  | .exn c e => .exn c e
  | .stuck => .stuck
/-- a display, asked at once -/
def dGetX (ps : List ((Ev → Res) × (Ev → Res))) (g : Ev → Res) : Ev → Res := fun env => getX2 (evs [dDisp ps, dFr g] env)
theorem disp_own {ps : List ((Ev → Res) × (Ev → Res))} {env e : Ev} {x : Val} {q : Ql} (h : dDisp ps env = .ok x e q) : ∃ t, x = .own (dicM t) := by
  unfold dDisp at h
  cases ev : evs (dDic0 :: flatF ps) env with
  | stuck => rw [ev] at h; cases h
  | exn c e1 => rw [ev] at h; cases h
  | ok xs e1 q1 =>
    rw [ev] at h
    cases xs with
    | nil => cases h
    | cons y xs =>
      simp only [disp2] at h
      cases et : pairsOf xs with
      | none => simp only [et] at h; cases h
      | some t =>
        simp only [et] at h
        by_cases hl15 : t.length ≤ 15
        · rw [if_pos hl15] at h
          cases h
          exact ⟨_, rfl⟩
        · rw [if_neg hl15] at h
          cases h
theorem rm_isD {K : PySem.W.Frag} {H : Hp} {G : Addr → Prop} {v : V} {m : M} {F : List Addr} (h : RM K H G v m F) {t : List (Key × PyData)} (e : m = dicM t) : ∃ a, v = .ref a ∧ IsD H a := by
  unfold dicM at e
  cases h with
  | dK ha _ => exact ⟨_, rfl, .inl ⟨_, .inl ha⟩⟩
  | fz _ => cases e
  | lst _ _ => cases e
  | tup _ _ => cases e
  | dT _ _ => cases e
theorem tu_isD {K : PySem.W.Frag} {mg : Str → Option Value} {σ : L2.St} {H : Hp} {W : WX} {ps : List ((Ev → Res) × (Ev → Res))} {Q : VK} (h : TU K mg W (dDisp ps) σ H Q) : TU K mg W (dDisp ps) σ H fun v H1 => (∃ a, v = .ref a ∧ IsD H1 a) ∧ Q v H1 := by
  obtain ⟨Z, O, env, I, h⟩ := h
  refine ⟨Z, O, env, I, ?_⟩
  cases e : dDisp ps env with
  | stuck => rw [e] at h; exact h
  | exn c e1 => rw [e] at h; exact h
  | ok x e1 q =>
    rw [e] at h
    obtain ⟨t, rfl⟩ := disp_own e
    intro v H' p
    refine ⟨?_, h v H' p⟩
    obtain ⟨O', F, I', r, _⟩ := p.ex
    cases r with
    | own h1 _ => exact rm_isD h1 rfl
theorem getX2_ok {xs : List Val} {e e' : Ev} {q q' : Ql} {x : Val} (h : getX2 (.ok xs e q) = .ok x e' q') : ∃ ks ms kd k ds, xs = [.own (.dK ks ms), .own (.fz kd)] ∧ keyD kd = some k ∧ leaves ms = some ds ∧ x = .own (.fz ((findD (ks.zip ds) k).getD .none)) ∧ e' = e ∧ q' = q.n := by
  unfold getX2 at h
  split at h
  · rename_i ks ms kd e2 q2 eq
    cases eq
    split at h
    · rename_i k ds ek el
      cases h
      exact ⟨ks, ms, kd, k, ds, rfl, ek, el, rfl, rfl, rfl⟩
    · cases h
  · cases h
  · cases h
  · cases h
theorem getX2_no {xs : List Val} {e e' : Ev} {q : Ql} {c : Exn} (h : getX2 (.ok xs e q) = .exn c e') : False := by
  unfold getX2 at h
  split at h
  · rename_i ks ms kd e2 q2 eq
    cases eq
    split at h <;> cases h
  · cases h
  · contradiction
  · cases h
theorem se_getX {ps : List ((Ev → Res) × (Ev → Res))} {o : Expr} (hu : X.A.units + 1 < cLine) (hf : SE X (dDisp ps) o) (hg : SE X g e)
    (m : M1 X o "get" apos e cpos := by exact ⟨rfl, rfl, rfl, rfl⟩) : SE X (dGetX ps g) (.Call (.Attribute o "get" apos) [e] [] cpos) := fun W tk => PE.imp (pe_dget1 hu (hf W tk) (se_fr hg W tk) m) fun σ H Q ⟨Z, O, env, I, h⟩ => by
  have hT : TUL X.K X.mg W (evs [dDisp ps, dFr g]) σ H fun vs H2 => ∀ v w, vs = [v, w] → ∃ a, v = .ref a ∧ ∃ o, DGet H2 a w o ∧ Q (o.getD .non) H2 := by
    refine ⟨Z, O, env, I, ?_⟩
    unfold dGetX at h
    cases ev : evs [dDisp ps, dFr g] env with
    | stuck => rw [ev] at h; exact h
    | exn c e1 => rw [ev] at h; exact h
    | ok xs e3 q =>
      rw [ev] at h
      cases er : getX2 (.ok xs e3 q) with
      | stuck => rw [er] at h; exact h.elim
      | exn c e1 => exact (getX2_no er).elim
      | ok x e4 q4 =>
      rw [er] at h
      obtain ⟨ks, ms, kd, k, ds, rfl, ek, el, rfl, rfl, rfl⟩ := getX2_ok er
      intro vs H2 pl v w evw
      subst evw
      obtain ⟨O', F, I', r, nd, nz, st, qu, pp⟩ := pl.ex
      cases r with
      | own h1 r1 =>
        cases r1 with
        | own h2 r2 =>
          cases r2
          have ev2 := keyD_V h2.fzD.1 ek
          subst ev2
          cases h1 with
          | dK ha rms =>
            obtain ⟨rf, _⟩ := rms.leaf el
            have rt := RT.of rf
            refine ⟨_, rfl, valV _ k, DGet.k ha, ?_⟩
            have fin : ∀ {u : V} {d : PyData} {G : Addr → Prop}, (∀ a, G a → ¬ Z a ∧ a ∉ O') → RF X.K H2 G u d → Post X.K Z O env σ H u H2 (.own (.fz d)) e4 q.n := fun {u d G} gg r => ⟨⟨O', [], I'.weak fun a z => z.elim (fun z => .inl z) (fun z => nomatch z), RVs.own (F := []) (F' := []) (RM.fz (r.imp fun a g => ⟨(gg a g).1, (gg a g).2, (fun z => nomatch z)⟩)) .nil, List.nodup_nil, (fun _ z => nomatch z), st.weak fun _ z => (nomatch z), (fun z => qu (qn_l z)), fun z => (qn_p z).elim⟩⟩
            rcases rt.find (k := k) with ⟨f1, f2⟩ | ⟨u, d, f1, f2, ru⟩
            · rw [f2]
              rw [f1] at h
              exact h _ _ (fin (G := fun a => ¬ Z a ∧ a ∉ O') (fun a g => g) .non)
            · rw [f2]
              rw [f1] at h
              exact h _ _ (fin (fun a g => ⟨g.1, g.2.1⟩) ru)
  exact tu_mono (tu_isD (tu_cons hT)) fun v H1 ⟨⟨a, e1, hd⟩, h1⟩ => by
    subst e1
    exact ⟨a, rfl, hd, tu_mono (tu_cons h1) fun w H2 h2 => by
      obtain ⟨a', e2, r⟩ := tul_nil h2 _ _ rfl
      cases e2
      exact r⟩
theorem getX_ {ps : List ((Ev → Res) × (Ev → Res))} {o : Expr} (hu : X.A.units + 65 < cLine) (hf : SE X (dDisp ps) o) (hg : SE X g e)
    (m : M1 X o "get" apos e cpos := by exact ⟨rfl, rfl, rfl, rfl⟩) : SE X (dGetX ps g) (.Call (.Attribute o "get" apos) [e] [] cpos) := se_getX (by omega) hf hg m
end
end Q

set_option Elab.async false
set_option linter.all false
set_option maxRecDepth 100000
set_option maxHeartbeats 4000000
/-! Defs found in a written dict of the module; parts of which nothing is told. -/
namespace Q
open PySem PySem.Spec PyProof.Rows L2
/-! ### nothing is told -/
def dStkE : Ev → Res := fun _ => .stuck
theorem se_stkE {X : Cx} {e : Expr} : SE X dStkE e := fun W tk => ⟨fun pins s σ H Q I ⟨Z, O, env, I2, h⟩ => h.elim⟩
/-! ### a written dict of defs -/
def tadr (K : PySem.W.Frag) (tab : Str) : Addr := match PySem.W.nsIn K mainGlobals tab with
  | some (some (.ref d)) => d
  | _ => 0
def tabOk (K : PySem.W.Frag) (tab : Str) (ks : List (Str × Str)) : Bool := match PySem.W.nsIn K mainGlobals tab with
  | some (some (.ref d)) => ks.all fun p => (match PySem.W.nsIn K d p.1 with
    | some (some (.ref a)) => a == He.ga K p.2
    | _ => false)
  | _ => false
def TabQ (K : PySem.W.Frag) (w : World) (mg : Str → Option Value) (tab : Str) (ks : List (Str × Str)) : Prop := ∃ d, mg tab = some (.ref d) ∧ ∀ p ∈ ks, KDct K w d p.1 (.ref (He.ga K p.2))
theorem tab_ok {K : PySem.W.Frag} {w : World} {h : Heap} {mg : Str → Option Value} {tab : Str} {ks : List (Str × Str)} (X : K.In h) (G : h.Ns mainGlobals mg) (t : tabOk K tab ks = true) (kd : ∃ es n, KDict K w (tadr K tab) es n) : TabQ K w mg tab ks := by
  obtain ⟨es, n, D⟩ := kd
  unfold tabOk at t
  unfold tadr at D
  cases e : PySem.W.nsIn K mainGlobals tab with
  | none => rw [e] at t; cases t
  | some o =>
    cases o with
    | none => rw [e] at t; cases t
    | some v =>
      cases v with
      | ref d =>
        rw [e] at t D
        refine ⟨d, PySem.W.mg_of X G e, fun p hp => ?_⟩
        have z := List.all_eq_true.mp t p hp
        cases e2 : PySem.W.nsIn K d p.1 with
        | none => rw [e2] at z; cases z
        | some o2 =>
          cases o2 with
          | none => rw [e2] at z; cases z
          | some v2 =>
            cases v2 with
            | ref a =>
              rw [e2] at z
              have z : a = He.ga K p.2 := eq_of_beq z
              subst z
              exact ⟨es, n, _, D.at_, D.lit, e2, rfl⟩
            | _ => rw [e2] at z; cases z
      | _ => rw [e] at t; cases t
def dFnd (i : Nat) (cs : List (Str × Nat × (Ev → Out))) (fs : List (Ev → Res)) : Ev → Res := fun env => match env[i]? with
  | some (some (.fz (.str z))) => (match cs.find? fun c => decide (c.1 = z) with
    | some c => dCall c.2.1 c.2.2 fs env
    | none => .stuck)
  | _ => .stuck
section
variable {X : Cx}
/-- the defs that are walked -/
inductive FdL (X : Cx) (k : Nat) (ks : List (Str × Str)) (n : Nat) : List (Str × Nat × (Ev → Out)) → Prop
  | nil : FdL X k ks n []
  | cons {z x : Str} {m : Nat} {ps N : List Str} {io : Nat → Bool} {den : Ev → Out} {cs : List (Str × Nat × (Ev → Out))} : HasF X.prog X.w X.K X.mg X.base k x ps N io den → N.length = m → n = ps.length → (z, x) ∈ ks → FdL X k ks n cs → FdL X k ks n ((z, m, den) :: cs)
theorem FdL.of {k n : Nat} {ks : List (Str × Str)} : ∀ {cs : List (Str × Nat × (Ev → Out))}, FdL X k ks n cs → ∀ c ∈ cs, ∃ (x : Str) (ps N : List Str) (io : Nat → Bool), HasF X.prog X.w X.K X.mg X.base k x ps N io c.2.2 ∧ N.length = c.2.1 ∧ n = ps.length ∧ (c.1, x) ∈ ks
  | _, .nil, _, h => by cases h
  | _, .cons a b d e r, c, h => by
    rcases List.mem_cons.mp h with h | h
    · subst h
      exact ⟨_, _, _, _, a, b, d, e⟩
    · exact r.of c h
theorem fnd_ {i k : Nat} {tab wx : Str} {ks : List (Str × Str)} {cs : List (Str × Nat × (Ev → Out))} {fs : List (Ev → Res)} {e : Expr} {es : List Expr} {p1 p2 p3 pos : Pos} (t : TabQ X.K X.w X.mg tab ks) (hr : Room k X.A) (hcs : FdL X k ks fs.length cs) (ha : SA X (evs fs) (e :: es)) (hg : Gl X tab := by rfl)
    (hN : X.N[i]? = some wx := by rfl) (hv : Vis X.env.scope wx := by first | exact Or.inl rfl | exact Or.inr (Or.inl rfl) | exact Or.inr (Or.inr rfl)) (hs : PlainIx (.Name wx p2) := by exact fun _ _ => rfl)
    (hd : (wx == ("__debug__" : Str)) = false := by decide) (hcd : (wx == ("__classdict__" : Str)) = false := by decide) (hdb : (tab == ("__debug__" : Str)) = false := by decide)
    (he : starEach (e :: es) X.env = (false, eval e X.env) :: starEach es X.env := by rfl) (hpl : (backTo pos (starEach es X.env)).any (·.1) = false := by rfl)
    (harm : eval (.Call (.Subscript (.Name tab p1) (.Name wx p2) p3) (e :: es) [] pos) X.env = (do callWith pos (← eval (.Subscript (.Name tab p1) (.Name wx p2) p3) X.env) [] (backTo pos (starEach (e :: es) X.env)) (backToKw pos (keywordEach [] X.env))) := by rfl) :
    SE X (dFnd i cs fs) (.Call (.Subscript (.Name tab p1) (.Name wx p2) p3) (e :: es) [] pos) := fun W tk => ⟨fun pins s σ H Q I h => by
  obtain ⟨Z, O, env, I', h⟩ := h
  obtain ⟨z, c, ez, hc, h⟩ : ∃ z c, env[i]? = some (some (.fz (.str z))) ∧ (c ∈ cs ∧ c.1 = z) ∧ TU X.K X.mg W (dCall c.2.1 c.2.2 fs) σ H Q := by
    unfold dFnd at h
    cases e1 : env[i]? with
    | none => simp only [e1] at h
    | some o =>
      cases o with
      | none => simp only [e1] at h
      | some mm =>
        cases mm with
        | fz d =>
          cases d with
          | str z =>
            simp only [e1] at h
            cases e2 : cs.find? (fun c => decide (c.1 = z)) with
            | none => simp only [e2] at h
            | some c =>
              simp only [e2] at h
              exact ⟨z, c, rfl, ⟨List.mem_of_find?_eq_some e2, by simpa using List.find?_some e2⟩, Z, O, env, I', h⟩
          | _ => simp only [e1] at h
        | _ => simp only [e1] at h
  obtain ⟨v, F, hσ, rv, _⟩ := I'.get ez
  cases rv with
  | fz rf =>
  cases rf
  obtain ⟨x, ps, N, io, F, hN2, hl, hm⟩ := hcs.of c hc.1
  obtain ⟨d, t1, t2⟩ := t
  have kd := t2 _ hm
  rw [hc.2] at kd
  obtain ⟨fd, Fn, hb, _⟩ := F.ex
  have hf : PE X (.Subscript (.Name tab p1) (.Name wx p2) p3) (tOp (rIxD X.K X.w) (tC (.ref d)) _) := pe_ix ix_kdict (pe_glob hg t1 rfl hdb) (pe_var hN hv hd hcd) hs
  rw [harm]
  refine wpAny_bind (thn (hf.run pins s σ H (fun v H1 => v = .ref (He.ga X.K x) ∧ H1 = H) I ⟨_, hσ, d, z, _, rfl, rfl, kd, rfl, rfl⟩) fun u s1 ⟨v, H1, I1, r1, ev, eH⟩ => ?_)
  subst ev
  rw [eH] at I1
  cases r1
  have h2 := h
  rw [← hN2] at h2
  refine PySem.W.callWith_K (h₀ := X.base) I.ok.mod.kin F.kp (thn ((ha W tk).run pos pins s1 σ H _ I1 (call_go (io := io) h2)) fun us s2 ⟨vs, H2, I2, r, q⟩ => ⟨I2.kIn, ?_⟩) he hpl
  rw [hl] at q
  exact run_fnSD Fn hr hb .nil (passAt tk σ) I2 r q⟩
end
theorem law_FT {l : PySem.W.OpenLaw} {P : Program} {w : World} {mg : Str → Option Value} {fa : Addr} {h : Heap} {fc : List He.Fa} {fn : List He.DefD} {ts : List He.Tab} {ex : PySem.W.Frag → Bool} {n k : Nat} {N : List Str} {io : Nat → Bool} {den : Ev → Out} {CC : PySem.W.Frag → Prop} (Y : ∃ K : PySem.W.Frag, K.In h ∧ He.SaysX fc fn ts [] ex w h K) (G : h.Ns mainGlobals mg) (hmg : mg ("law" : Str) = some (.ref fa))
    (hex : ∀ K, ex K = true → He.SaysT fc fn ts w K → noInts K = true ∧ CC K) (hF : ∀ (K : PySem.W.Frag), K.In h → He.SaysD fc fn K → CC K → ∀ base, HasF P w K mg base k "law" ["script"] N io den)
    (hd : ∀ ns : List Int, ns.length ≤ n → (∀ z ∈ ns, Builtin.Int.intBits z ≤ 1048576) → ∃ e, den (startE N.length [.fz (scriptD ns)]) = .ret (.fz (.bool true)) e) :
    ∃ (K : PySem.W.Frag) (fd : FuncData) (sp : Sp), K.In h ∧ (∀ (s : Shared) (u : Value), BindsTo s fd ⟨[u], []⟩ [("script", u)]) ∧
        (∀ (H : Hp) (a : Addr) (ns : List Int), ns.length ≤ n → (∀ z ∈ ns, Builtin.Int.intBits z ≤ 1048576) → Only H → SqL K H a (ns.map V.int) → sp [.ref a] H (fun v _ => v = .bl true) fun _ _ _ => False) ∧
        ∀ base : Heap, K.In base → base.Ns mainGlobals mg → FnOk P w K mg base (L2.CX P w) k fa fd ["script"] sp := by
  obtain ⟨K, KX, c⟩ := Y
  obtain ⟨h1, h2⟩ := hex K c.more c.t
  obtain ⟨fd0, _, _, b0, oc0, od0, sl0, lk0⟩ := (hF K KX c.t.d h2 h).ex
  have ga := (hF K KX c.t.d h2 h).gl
  have e := hmg.symm.trans ga
  cases e
  obtain ⟨fd, F⟩ : ∃ fd, (∀ (s : Shared) (us : List Value), us.length = 1 → BindsTo s fd ⟨us, []⟩ ((["script"] : List Str).zip us)) ∧ ∀ base, FnQ P w K mg base k (He.ga K "law") fd ["script"] N io den := by
    refine ⟨fd0, b0, fun base => ?_⟩
    obtain ⟨fd1, f1, _, _, oc1, od1, sl1, lk1⟩ := (hF K KX c.t.d h2 base).ex
    rw [lk0] at lk1
    have e1 : fd0 = fd1 := by injection lk1 with e; injection e with _ _ e _; injection e
    rw [e1]
    exact f1
  exact ⟨K, fd, _, KX, fun s u => F.1 s [u] rfl, fun H a ns hl hb hO hS => by
    obtain ⟨e', he⟩ := hd ns hl hb
    exact law_sp h1 hS e' he, fun base _ _ => F.2 base⟩
end Q

set_option Elab.async false
set_option linter.all false
set_option maxRecDepth 100000
set_option maxHeartbeats 4000000
/-! Goods by entitlements: the plain law of the picks. -/
namespace Q
open PySem PySem.Spec PyProof.Rows L2
structure GoodR (rows : List (List Nat)) (m : Nat) : Prop where
  n1 : 1 ≤ rows.length
  n6 : rows.length ≤ 6
  m1 : 1 ≤ m
  m9 : m ≤ 10
  len : ∀ r ∈ rows, r.length = m
  rng : ∀ r ∈ rows, ∀ x ∈ r, 1 ≤ x ∧ x ≤ 1000
structure GoodO (n t : Nat) (os : List Nat) : Prop where
  len : os.length = t
  lt : ∀ o ∈ os, o < n
def wv (rows : List (List Nat)) (i g : Nat) : Nat := (rows.getD i []).getD g 0
def pw (rows : List (List Nat)) (os : List Nat) (i k : Nat) : Nat := ((List.range os.length).map fun g => if os.getD g 0 = k then wv rows i g else 0).sum
theorem sum_le_of {l : List Nat} {f g : Nat → Nat} (h : ∀ x ∈ l, f x ≤ g x) : (l.map f).sum ≤ (l.map g).sum := by
  induction l with
  | nil => simp
  | cons a l ih =>
    rw [List.map_cons, List.map_cons, List.sum_cons, List.sum_cons]
    have := h a List.mem_cons_self
    have := ih fun x hx => h x (List.mem_cons_of_mem _ hx)
    omega
theorem getD_app1 {w v : List Nat} {j : Nat} (h : j < w.length) : (w ++ v).getD j 0 = w.getD j 0 := by simp [List.getElem?_append_left h]
theorem getD_app2 {w : List Nat} {j x : Nat} (h : j = w.length) : (w ++ [x]).getD j 0 = x := by subst h; simp
section
variable {rows : List (List Nat)} {os : List Nat} {m t : Nat}
theorem wv_rng (gr : GoodR rows m) {i g : Nat} (hi : i < rows.length) (hg : g < m) : 1 ≤ wv rows i g ∧ wv rows i g ≤ 1000 := by
  have h1 : rows.getD i [] = rows[i] := by simp [hi]
  have hm := List.getElem_mem hi
  have hl := gr.len _ hm
  unfold wv
  rw [h1]
  have h2 : rows[i].getD g 0 = rows[i][g]'(by omega) := by simp [show g < rows[i].length by omega]
  rw [h2]
  exact gr.rng _ hm _ (List.getElem_mem _)
theorem pw_snoc (o i k : Nat) : pw rows (os ++ [o]) i k = pw rows os i k + if o = k then wv rows i os.length else 0 := by
  unfold pw
  rw [List.length_append, List.length_singleton, List.range_succ, List.map_append, List.sum_append]
  simp only [List.map_cons, List.map_nil, List.sum_cons, List.sum_nil, Nat.add_zero]
  congr 1
  · congr 1
    apply List.map_congr_left
    intro g hg
    have hg := List.mem_range.mp hg
    rw [getD_app1 hg]
  · rw [getD_app2 rfl]
theorem pw_le (gr : GoodR rows m) (go : GoodO rows.length t os) (ht : t ≤ m) {i k : Nat} (hi : i < rows.length) : pw rows os i k ≤ 10000 := by
  unfold pw
  have key : ∀ l : List Nat, (∀ g ∈ l, g < m) → (l.map fun g => if os.getD g 0 = k then wv rows i g else 0).sum ≤ l.length * 1000 := by
    intro l
    induction l with
    | nil => intro _; simp
    | cons a l ih =>
      intro h
      have h1 := ih fun x hx => h x (List.mem_cons_of_mem _ hx)
      have h2 := (wv_rng gr hi (h a List.mem_cons_self)).2
      rw [List.map_cons, List.sum_cons, List.length_cons, Nat.add_mul]
      split <;> omega
  have := key (List.range os.length) fun g hg => by have := List.mem_range.mp hg; have := go.len; omega
  rw [List.length_range] at this
  have := gr.m9
  have := go.len
  omega
end
def leftO (O : List (Option Nat)) : List Nat := (List.range O.length).filter fun g => decide (O.getD g none = none)
def bestO (c : Nat → Nat) (l : List Nat) : Option Nat := l.foldl (fun b g => match b with
  | none => some g
  | some x => if c g < c x then some g else some x) none
theorem bestO_snoc (c : Nat → Nat) (l : List Nat) (g : Nat) : bestO c (l ++ [g]) = match bestO c l with
  | none => some g
  | some x => if c g < c x then some g else some x := by
  unfold bestO
  rw [List.foldl_append]
  rfl
theorem bestO_spec (c : Nat → Nat) : ∀ (n : Nat) (l : List Nat), l.length = n → l.Pairwise (· < ·) → l ≠ [] → ∃ b, bestO c l = some b ∧ b ∈ l ∧ ∀ g ∈ l, c b ≤ c g ∧ (g < b → c b < c g)
  | 0, l, h, _, ne => absurd (List.length_eq_zero_iff.mp h) ne
  | n + 1, l, h, pw, ne => by
    obtain ⟨l', x, rfl⟩ : ∃ l' x, l = l' ++ [x] := ⟨l.dropLast, l.getLast ne, (List.dropLast_concat_getLast ne).symm⟩
    obtain ⟨p1, _, p3⟩ := List.pairwise_append.mp pw
    have lt : ∀ g ∈ l', g < x := fun g hg => p3 g hg x List.mem_cons_self
    rw [bestO_snoc]
    by_cases h0 : l' = []
    · subst h0
      exact ⟨x, rfl, by simp, fun g hg => by
        have : g = x := by simpa using hg
        subst this
        exact ⟨Nat.le_refl _, fun z => by omega⟩⟩
    · obtain ⟨b, e, hb, hm⟩ := bestO_spec c n l' (by simpa using h) p1 h0
      rw [e]
      by_cases hlt : c x < c b
      · refine ⟨x, if_pos hlt, by simp, fun g hg => ?_⟩
        rcases List.mem_append.mp hg with hg | hg
        · have := (hm g hg).1
          exact ⟨by omega, fun _ => by omega⟩
        · rw [List.mem_singleton.mp hg]
          exact ⟨Nat.le_refl _, fun z => by omega⟩
      · refine ⟨b, if_neg hlt, List.mem_append_left _ hb, fun g hg => ?_⟩
        rcases List.mem_append.mp hg with hg | hg
        · exact hm g hg
        · rw [List.mem_singleton.mp hg]
          have := lt b hb
          exact ⟨by omega, fun z => by omega⟩
theorem left_mem {O : List (Option Nat)} {g : Nat} : g ∈ leftO O ↔ g < O.length ∧ O.getD g none = none := by
  unfold leftO
  rw [List.mem_filter, List.mem_range, decide_eq_true_eq]
theorem left_sorted (O : List (Option Nat)) : (leftO O).Pairwise (· < ·) := List.Pairwise.filter _ List.pairwise_lt_range
theorem left_set {O : List (Option Nat)} {g i : Nat} : leftO (O.set g (some i)) = (leftO O).filter fun x => !decide (x = g) := by
  unfold leftO
  rw [List.length_set, List.filter_filter]
  apply List.filter_congr
  intro x hx
  have hx := List.mem_range.mp hx
  by_cases e : g = x
  · subst e; simp [hx]
  · have e2 : ¬ x = g := fun z => e z.symm
    simp [List.getElem?_set_ne e, e2]
theorem left_len {O : List (Option Nat)} {g i : Nat} (h : g ∈ leftO O) : (leftO (O.set g (some i))).length + 1 = (leftO O).length := by
  rw [left_set]
  have nd : (leftO O).Nodup := (left_sorted O).imp fun h => Nat.ne_of_lt h
  have e : (leftO O).filter (fun x => !decide (x = g)) = (leftO O).erase g := by
    rw [nd.erase_eq_filter]
    apply List.filter_congr
    intro x _
    by_cases e : x = g
    · subst e; simp
    · simp [e]
  rw [e, List.length_erase_of_mem h]
  have : 0 < (leftO O).length := List.length_pos_of_mem h
  omega
theorem sum_upd {f f' : Nat → Nat} {g : Nat} : ∀ {l : List Nat}, l.Nodup → g ∈ l → (∀ x ∈ l, x ≠ g → f' x = f x) → (l.map f').sum + f g = (l.map f).sum + f' g
  | [], _, h, _ => by cases h
  | a :: l, nd, h, e => by
    obtain ⟨n1, n2⟩ := List.nodup_cons.mp nd
    rw [List.map_cons, List.map_cons, List.sum_cons, List.sum_cons]
    by_cases ha : a = g
    · subst ha
      have : l.map f' = l.map f := List.map_congr_left fun x hx => e x (List.mem_cons_of_mem _ hx) fun z => n1 (z ▸ hx)
      rw [this]; omega
    · have hg : g ∈ l := (List.mem_cons.mp h).resolve_left fun z => ha z.symm
      have := sum_upd n2 hg fun x hx => e x (List.mem_cons_of_mem _ hx)
      have := e a List.mem_cons_self ha
      omega
/-! ### who picks what -/
def ck (rows : List (List Nat)) (i g : Nat) : Nat := 1000 - wv rows i g
def stepP (rows : List (List Nat)) (ts : List Nat) (t : Nat) (O : List (Option Nat)) : List (Option Nat) := O.set ((bestO (ck rows (ts.getD t 0)) (leftO O)).getD 0) (some (ts.getD t 0))
def pkO (rows : List (List Nat)) (ts : List Nat) (m : Nat) : Nat → List (Option Nat)
  | 0 => List.replicate m none
  | t + 1 => stepP rows ts t (pkO rows ts m t)
def pkL (rows : List (List Nat)) (ts : List Nat) (m : Nat) : List Nat := (pkO rows ts m m).map fun o => o.getD 0
section
variable {rows : List (List Nat)} {ts : List Nat} {m : Nat}
theorem best_left {O : List (Option Nat)} (c : Nat → Nat) (h : leftO O ≠ []) : ∃ b, bestO c (leftO O) = some b ∧ b ∈ leftO O ∧ ∀ g ∈ leftO O, c b ≤ c g ∧ (g < b → c b < c g) := bestO_spec c _ _ rfl (left_sorted O) h
theorem pkO_len : ∀ t, (pkO rows ts m t).length = m
  | 0 => by simp [pkO]
  | t + 1 => by unfold pkO stepP; rw [List.length_set]; exact pkO_len t
theorem left0 : leftO (pkO rows ts m 0) = List.range m := by
  unfold leftO pkO
  rw [List.length_replicate]
  apply List.filter_eq_self.mpr
  intro x hx
  have := List.mem_range.mp hx
  simp [this]
theorem pk_left : ∀ t, t ≤ m → (leftO (pkO rows ts m t)).length = m - t
  | 0, _ => by rw [left0, List.length_range]; rfl
  | t + 1, h => by
    have ih := pk_left t (by omega)
    have ne : leftO (pkO rows ts m t) ≠ [] := fun z => by rw [z] at ih; simp at ih; omega
    obtain ⟨b, e, hb, _⟩ := best_left (ck rows (ts.getD t 0)) ne
    have := left_len (i := ts.getD t 0) hb
    unfold pkO stepP
    rw [e]
    show (leftO ((pkO rows ts m t).set b _)).length = _
    omega
theorem pk_ne {t : Nat} (h : t < m) : leftO (pkO rows ts m t) ≠ [] := fun z => by
  have ih := pk_left (rows := rows) (ts := ts) t (by omega : t ≤ m)
  rw [z] at ih; simp at ih; omega
theorem pk_all {g : Nat} (hg : g < m) : ∃ x, (pkO rows ts m m).getD g none = some x := by
  have h := pk_left (rows := rows) (ts := ts) m (Nat.le_refl _)
  cases e : (pkO rows ts m m).getD g none with
  | some x => exact ⟨x, rfl⟩
  | none =>
    have : g ∈ leftO (pkO rows ts m m) := left_mem.mpr ⟨by rw [pkO_len]; exact hg, e⟩
    have := List.length_pos_of_mem this
    omega
theorem pkL_get {g x : Nat} (hg : g < m) : (pkL rows ts m).getD g 0 = x ↔ (pkO rows ts m m).getD g none = some x := by
  obtain ⟨y, hy⟩ := pk_all (rows := rows) (ts := ts) hg
  have hl : g < (pkO rows ts m m).length := by rw [pkO_len]; exact hg
  have e : (pkO rows ts m m)[g]? = some (some y) := by
    simp only [List.getD_eq_getElem?_getD, List.getElem?_eq_getElem hl, Option.getD_some] at hy ⊢
    rw [hy]
  rw [hy]
  unfold pkL
  simp [e]
theorem pk_lt {n : Nat} (hn : ∀ x ∈ ts, x < n) (hl : ts.length = m) : ∀ t, t ≤ m → ∀ o ∈ pkO rows ts m t, ∀ x, o = some x → x < n
  | 0, _, o, ho, x, e => by
    have := List.eq_of_mem_replicate ho
    rw [this] at e; cases e
  | t + 1, ht, o, ho, x, e => by
    unfold pkO stepP at ho
    rcases List.mem_or_eq_of_mem_set ho with ho | ho
    · exact pk_lt hn hl t (by omega) o ho x e
    · rw [e] at ho
      cases ho
      exact hn _ (get_mem (by omega))
theorem pkL_good {n : Nat} (hn : ∀ x ∈ ts, x < n) (h0 : 0 < n) (hl : ts.length = m) : GoodO n m (pkL rows ts m) := ⟨by unfold pkL; rw [List.length_map, pkO_len], fun o ho => by
  obtain ⟨y, hy, rfl⟩ := List.mem_map.mp ho
  cases y with
  | none => exact h0
  | some x => exact pk_lt hn hl m (Nat.le_refl _) _ hy x rfl⟩
/-! ### how many goods of k are worth at least c to i -/
def cC (rows : List (List Nat)) (O : List (Option Nat)) (i k c : Nat) : Nat := ((List.range O.length).map fun g => if O.getD g none = some k ∧ c ≤ wv rows i g then 1 else 0).sum
theorem cC_set {O : List (Option Nat)} {g k0 : Nat} (hg : g < O.length) (h : O.getD g none = none) (i k c : Nat) : cC rows (O.set g (some k0)) i k c = cC rows O i k c + if k0 = k ∧ c ≤ wv rows i g then 1 else 0 := by
  unfold cC
  rw [List.length_set]
  have z := sum_upd (f := fun g => if O.getD g none = some k ∧ c ≤ wv rows i g then 1 else 0) (f' := fun x => if (O.set g (some k0)).getD x none = some k ∧ c ≤ wv rows i x then 1 else 0) (g := g) List.nodup_range (List.mem_range.mpr hg) fun x hx ne => by
    have e2 : g ≠ x := fun z => ne z.symm
    simp [List.getElem?_set_ne e2]
  have e1 : (if O.getD g none = some k ∧ c ≤ wv rows i g then 1 else 0) = 0 := by rw [h]; simp
  have e2 : (if (O.set g (some k0)).getD g none = some k ∧ c ≤ wv rows i g then 1 else 0) = if k0 = k ∧ c ≤ wv rows i g then 1 else 0 := by simp [hg]
  rw [e1, e2] at z
  omega
theorem cC_le (O : List (Option Nat)) (i k c : Nat) : cC rows O i k c ≤ cC rows O i k 0 := by
  unfold cC
  apply sum_le_of
  intro x _
  by_cases h : O.getD x none = some k ∧ c ≤ wv rows i x
  · rw [if_pos h, if_pos ⟨h.1, Nat.zero_le _⟩]; exact Nat.le_refl _
  · rw [if_neg h]; exact Nat.zero_le _
theorem cC_nil (i k c : Nat) : cC rows (pkO rows ts m 0) i k c = 0 := by
  unfold cC pkO
  apply Nat.le_zero.mp
  refine Nat.le_trans (sum_le_of (g := fun _ => 0) fun x hx => ?_) ?_
  · rw [List.length_replicate] at hx
    have := List.mem_range.mp hx
    simp [this]
  · rw [List.length_replicate]
    generalize List.range m = l
    induction l with
    | nil => exact Nat.le_refl _
    | cons a l ih => simpa using ih
theorem take_cnt {t : Nat} (h : t < ts.length) (j : Nat) : (ts.take (t + 1)).count j = (ts.take t).count j + if ts.getD t 0 = j then 1 else 0 := by
  have e : ts.take (t + 1) = ts.take t ++ [ts.getD t 0] := by
    rw [List.take_add_one]
    simp [h]
  rw [e, List.count_append, List.count_singleton]
  by_cases hj : ts.getD t 0 = j
  · rw [if_pos hj, if_pos (by simpa using hj)]
  · rw [if_neg hj, if_neg (by simpa using hj)]
/-- the walk of the picks, seen by i against k -/
structure InvP (rows : List (List Nat)) (ts : List Nat) (t : Nat) (O : List (Option Nat)) (i k wi wk e f : Nat) : Prop where
  a : ∀ g ∈ leftO O, ∀ g', g' < O.length → O.getD g' none = some i → wv rows i g ≤ wv rows i g'
  ni : cC rows O i i 0 = (ts.take t).count i
  nk : cC rows O i k 0 = (ts.take t).count k
  b : ∀ c, 2 * (cC rows O i k c * wi) ≤ 2 * (cC rows O i i c * wk) + e * wk + f * wi
theorem inv_pick {i k wi wk e f : Nat} (gr : GoodR rows m) (hi : i < rows.length) (hik : i ≠ k) (hl : ts.length = m) (ef : e + f = 2)
    (hm : ∀ t, t < m → ts.getD t 0 = k → 2 * ((ts.take t).count k * wi) + e * wi ≤ 2 * ((ts.take t).count i * wk) + e * wk) :
    ∀ t, t ≤ m → InvP rows ts t (pkO rows ts m t) i k wi wk e f
  | 0, _ => by
    refine ⟨fun g _ g' hg' h => ?_, ?_, ?_, fun c => ?_⟩
    · unfold pkO at hg' h
      rw [List.length_replicate] at hg'
      simp [hg'] at h
    · rw [cC_nil]; rfl
    · rw [cC_nil]; rfl
    · rw [cC_nil, Nat.zero_mul]; exact Nat.zero_le _
  | t + 1, ht => by
    have ih := inv_pick gr hi hik hl ef hm t (by omega)
    have ol := pkO_len (rows := rows) (ts := ts) (m := m) t
    obtain ⟨b, eb, hb, hbm⟩ := best_left (ck rows (ts.getD t 0)) (pk_ne (rows := rows) (ts := ts) (by omega : t < m))
    have es : pkO rows ts m (t + 1) = (pkO rows ts m t).set b (some (ts.getD t 0)) := by
      rw [pkO, stepP, eb]
      rfl
    have hmt := hm t (by omega)
    rw [es]
    have tk := take_cnt (ts := ts) (t := t) (by omega)
    generalize ts.getD t 0 = p at *
    generalize pkO rows ts m t = O at *
    obtain ⟨b1, b2⟩ := left_mem.mp hb
    have sub : ∀ g ∈ leftO (O.set b (some p)), g ∈ leftO O := fun g hg => by
      rw [left_set] at hg
      exact (List.mem_filter.mp hg).1
    have cnt : ∀ j, cC rows (O.set b (some p)) i j 0 = cC rows O i j 0 + if p = j then 1 else 0 := fun j => by
      rw [cC_set b1 b2]
      simp
    refine ⟨fun g hg g' hg' h => ?_, by rw [cnt, tk, ih.ni], by rw [cnt, tk, ih.nk], fun c => ?_⟩
    · by_cases e : b = g'
      · subst e
        have hp : p = i := by simpa [b1] using h
        subst hp
        have h1 := (hbm g (sub g hg)).1
        have r1 := wv_rng gr hi (g := b) (by omega)
        have r2 := wv_rng gr hi (g := g) (by have := (left_mem.mp (sub g hg)).1; omega)
        unfold ck at h1
        omega
      · rw [List.length_set] at hg'
        have h' : O.getD g' none = some i := by simpa [List.getElem?_set_ne e] using h
        exact ih.a g (sub g hg) g' hg' h'
    · rw [cC_set b1 b2, cC_set b1 b2]
      have B := ih.b c
      by_cases hp : p = k
      · subst hp
        have hpi : ¬ p = i := fun z => hik z.symm
        rw [if_neg (show ¬ (p = i ∧ c ≤ wv rows i b) from fun z => hpi z.1)]
        by_cases hc : c ≤ wv rows i b
        · rw [if_pos ⟨rfl, hc⟩]
          have eI : cC rows O i i c = (ts.take t).count i := by
            rw [← ih.ni]
            unfold cC
            congr 1
            apply List.map_congr_left
            intro x hx
            have hx := List.mem_range.mp hx
            by_cases h : O.getD x none = some i
            · have := ih.a b hb x hx h
              rw [if_pos ⟨h, by omega⟩, if_pos ⟨h, Nat.zero_le _⟩]
            · rw [if_neg fun z => h z.1, if_neg fun z => h z.1]
          have hk := cC_le (rows := rows) O i p c
          rw [ih.nk] at hk
          have h1 := Nat.mul_le_mul_right wi hk
          have h2 := hmt rfl
          have h3 : e * wi + f * wi = 2 * wi := by rw [← Nat.add_mul, ef]
          have h4 : (cC rows O i p c + 1) * wi = cC rows O i p c * wi + wi := Nat.succ_mul _ _
          rw [eI, Nat.add_zero, h4]
          generalize cC rows O i p c * wi = x1 at *
          generalize (ts.take t).count p * wi = x2 at *
          generalize (ts.take t).count i * wk = x3 at *
          generalize e * wi = x4 at *
          generalize f * wi = x5 at *
          generalize e * wk = x6 at *
          clear hmt hm B ih
          omega
        · rw [if_neg (show ¬ (p = p ∧ c ≤ wv rows i b) from fun z => hc z.2)]
          exact B
      · rw [if_neg (show ¬ (p = k ∧ c ≤ wv rows i b) from fun z => hp z.1), Nat.add_zero]
        refine Nat.le_trans B ?_
        have := Nat.mul_le_mul_right wk (Nat.le_add_right (cC rows O i i c) (if p = i ∧ c ≤ wv rows i b then 1 else 0))
        omega
/-! ### summed over all bounds -/
def mS (rows : List (List Nat)) (O : List (Option Nat)) (i k G : Nat) : Nat := ((List.range O.length).map fun g => if O.getD g none = some k then min (wv rows i g) G else 0).sum
theorem mS_succ (O : List (Option Nat)) (i k G : Nat) : mS rows O i k (G + 1) = mS rows O i k G + cC rows O i k (G + 1) := by
  unfold mS cC
  generalize List.range O.length = l
  induction l with
  | nil => rfl
  | cons x l ih =>
    simp only [List.map_cons, List.sum_cons, ih]
    by_cases h : O.getD x none = some k
    · by_cases hc : G + 1 ≤ wv rows i x
      · rw [if_pos h, if_pos h, if_pos ⟨h, hc⟩]; omega
      · rw [if_pos h, if_pos h, if_neg fun z => hc z.2]; omega
    · rw [if_neg h, if_neg h, if_neg fun z => h z.1]; omega
theorem mS_zero (O : List (Option Nat)) (i k : Nat) : mS rows O i k 0 = 0 := by
  unfold mS
  generalize List.range O.length = l
  induction l with
  | nil => rfl
  | cons x l ih =>
    rw [List.map_cons, List.sum_cons, ih, Nat.min_zero]
    split <;> rfl
theorem envy_sum {O : List (Option Nat)} {i k wi wk e f : Nat} (b : ∀ c, 2 * (cC rows O i k c * wi) ≤ 2 * (cC rows O i i c * wk) + e * wk + f * wi) : ∀ G, 2 * (mS rows O i k G * wi) ≤ 2 * (mS rows O i i G * wk) + G * (e * wk) + G * (f * wi)
  | 0 => by rw [mS_zero, mS_zero]; omega
  | G + 1 => by
    have ih := envy_sum b G
    have h := b (G + 1)
    rw [mS_succ, mS_succ, Nat.add_mul (mS rows O i k G), Nat.add_mul (mS rows O i i G)]
    have a1 : (G + 1) * (e * wk) = G * (e * wk) + e * wk := Nat.succ_mul _ _
    have a2 : (G + 1) * (f * wi) = G * (f * wi) + f * wi := Nat.succ_mul _ _
    omega
theorem envy_all {i k wi wk e f G : Nat} (gr : GoodR rows m) (hi : i < rows.length) (hik : i ≠ k) (hl : ts.length = m) (ef : e + f = 2)
    (hm : ∀ t, t < m → ts.getD t 0 = k → 2 * ((ts.take t).count k * wi) + e * wi ≤ 2 * ((ts.take t).count i * wk) + e * wk)
    (hG : ∀ g, g < m → (pkL rows ts m).getD g 0 = k → wv rows i g ≤ G) :
    2 * (pw rows (pkL rows ts m) i k * wi) ≤ 2 * (pw rows (pkL rows ts m) i i * wk) + G * (e * wk) + G * (f * wi) := by
  have h := envy_sum (inv_pick gr hi hik hl ef hm m (Nat.le_refl _)).b G
  have ll : (pkL rows ts m).length = m := by unfold pkL; rw [List.length_map, pkO_len]
  have e1 : mS rows (pkO rows ts m m) i k G = pw rows (pkL rows ts m) i k := by
    unfold mS pw
    rw [ll, pkO_len]
    congr 1
    apply List.map_congr_left
    intro g hg
    have hg := List.mem_range.mp hg
    have z := pkL_get (rows := rows) (ts := ts) (x := k) hg
    by_cases h : (pkL rows ts m).getD g 0 = k
    · rw [if_pos h, if_pos (z.mp h), Nat.min_eq_left (hG g hg h)]
    · rw [if_neg h, if_neg fun y => h (z.mpr y)]
  have e2 : mS rows (pkO rows ts m m) i i G ≤ pw rows (pkL rows ts m) i i := by
    unfold mS pw
    rw [ll, pkO_len]
    apply sum_le_of
    intro g hg
    have hg := List.mem_range.mp hg
    have z := pkL_get (rows := rows) (ts := ts) (x := i) hg
    by_cases h : (pkL rows ts m).getD g 0 = i
    · rw [if_pos h, if_pos (z.mp h)]; exact Nat.min_le_left _ _
    · rw [if_neg h, if_neg fun y => h (z.mpr y)]; exact Nat.le_refl _
  rw [e1] at h
  have := Nat.mul_le_mul_right wk e2
  omega
end
end Q

set_option Elab.async false
set_option linter.all false
set_option maxRecDepth 100000
set_option maxHeartbeats 4000000
/-! Turns: the plain law. -/
namespace Q
open PySem PySem.Spec PyProof.Rows L2
/-! ### turns, one after the other -/
def cR (od : List Nat) (t i : Nat) : Nat := ((List.range t).map fun s => od.getD (s % od.length) 0).count i
def rrT (od : List Nat) (m : Nat) : List Nat := (List.range m).map fun t => od.getD (t % od.length) 0
theorem rrT_len (od : List Nat) (m : Nat) : (rrT od m).length = m := by simp [rrT]
theorem rrT_get {od : List Nat} {m t : Nat} (h : t < m) : (rrT od m).getD t 0 = od.getD (t % od.length) 0 := by simp [rrT, h]
theorem rrT_take {od : List Nat} {m t : Nat} (h : t ≤ m) (i : Nat) : ((rrT od m).take t).count i = cR od t i := by
  unfold rrT cR
  rw [← List.map_take, List.take_range, Nat.min_eq_left h]
theorem cR_succ (od : List Nat) (t i : Nat) : cR od (t + 1) i = cR od t i + if od.getD (t % od.length) 0 = i then 1 else 0 := by
  unfold cR
  rw [List.range_succ, List.map_append, List.count_append]
  congr 1
  show [od.getD (t % od.length) 0].count i = _
  rw [List.count_singleton]
  by_cases h : od.getD (t % od.length) 0 = i
  · rw [if_pos h, if_pos (by simpa using h)]
  · rw [if_neg h, if_neg (by simpa using h)]
theorem get_idx {od : List Nat} (nd : od.Nodup) {i r : Nat} (hi : i ∈ od) (hr : r < od.length) : od.getD r 0 = i ↔ r = od.idxOf i := by
  have h1 := idx_get hi
  have h2 := List.idxOf_lt_length_of_mem hi
  exact ⟨fun e => get_inj nd hr h2 (e.trans h1.symm), fun e => by rw [e]; exact h1⟩
theorem cR_eq {od : List Nat} (nd : od.Nodup) {i : Nat} (hi : i ∈ od) : ∀ t, cR od t i = t / od.length + if od.idxOf i < t % od.length then 1 else 0
  | 0 => by simp [cR]
  | t + 1 => by
    have ih := cR_eq nd hi t
    have hp := List.idxOf_lt_length_of_mem hi
    have n0 : 0 < od.length := by omega
    have hr := Nat.mod_lt t n0
    rw [cR_succ, ih]
    have g := get_idx nd hi hr
    have dm := Nat.div_add_mod t od.length
    generalize od.idxOf i = q at *
    generalize hn : od.length = n at *
    by_cases hw : t % n + 1 = n
    · have d1 : (t + 1) / n = t / n + 1 := by
        have : t + 1 = n * (t / n + 1) := by rw [Nat.mul_add, Nat.mul_one]; omega
        rw [this, Nat.mul_div_cancel_left _ n0]
      have d2 : (t + 1) % n = 0 := by
        have : t + 1 = n * (t / n + 1) := by rw [Nat.mul_add, Nat.mul_one]; omega
        rw [this]
        exact Nat.mul_mod_right _ _
      rw [d1, d2]
      by_cases h : od.getD (t % n) 0 = i
      · have := g.mp h
        rw [if_pos h, if_neg (by omega), if_neg (by omega)]
      · have : ¬ t % n = q := fun z => h (g.mpr z)
        rw [if_neg h, if_pos (by omega), if_neg (by omega)]
    · have d1 : (t + 1) / n = t / n := by
        have : t + 1 = (t % n + 1) + n * (t / n) := by omega
        rw [this, Nat.add_mul_div_left _ _ n0, Nat.div_eq_of_lt (by omega), Nat.zero_add]
      have d2 : (t + 1) % n = t % n + 1 := by
        have : t + 1 = (t % n + 1) + n * (t / n) := by omega
        rw [this, Nat.add_mul_mod_self_left, Nat.mod_eq_of_lt (by omega)]
      rw [d1, d2]
      by_cases h : od.getD (t % n) 0 = i
      · have := g.mp h
        rw [if_pos h, if_neg (by omega), if_pos (by omega)]
      · have hne : ¬ t % n = q := fun z => h (g.mpr z)
        rw [if_neg h]
        by_cases hl : q < t % n
        · rw [if_pos hl, if_pos (by omega)]
        · rw [if_neg hl, if_neg (by omega)]
theorem rr_fair {od : List Nat} (nd : od.Nodup) {i k t m : Nat} (hi : i ∈ od) (hk : k ∈ od) (ht : t < m) (h : (rrT od m).getD t 0 = k) : ((rrT od m).take t).count k ≤ ((rrT od m).take t).count i := by
  rw [rrT_get ht] at h
  have n0 : 0 < od.length := List.length_pos_of_mem hi
  have e := (get_idx nd hk (Nat.mod_lt t n0)).mp h
  rw [rrT_take (by omega), rrT_take (by omega), cR_eq nd hk, cR_eq nd hi, if_neg (by omega)]
  omega
theorem rr_good {od : List Nat} {n m : Nat} (hp : od.Perm (List.range n)) (n1 : 1 ≤ n) : GoodO n m (rrT od m) := ⟨rrT_len od m, fun o ho => by
  obtain ⟨t, _, rfl⟩ := List.mem_map.mp ho
  have ol : od.length = n := by rw [hp.length_eq, List.length_range]
  exact List.mem_range.mp (hp.mem_iff.mp (get_mem (Nat.mod_lt t (by omega))))⟩
theorem rr_ef1 {rows : List (List Nat)} {od : List Nat} {m i k G : Nat} (gr : GoodR rows m) (hp : od.Perm (List.range rows.length)) (hi : i < rows.length) (hk : k < rows.length) (hik : i ≠ k)
    (hG : ∀ g, g < m → (pkL rows (rrT od m) m).getD g 0 = k → wv rows i g ≤ G) : pw rows (pkL rows (rrT od m) m) i k ≤ pw rows (pkL rows (rrT od m) m) i i + G := by
  have nd : od.Nodup := hp.nodup_iff.mpr List.nodup_range
  have mi : ∀ {x}, x < rows.length → x ∈ od := fun h => hp.mem_iff.mpr (List.mem_range.mpr h)
  have z := envy_all (rows := rows) (ts := rrT od m) (m := m) (i := i) (k := k) (wi := 1) (wk := 1) (e := 0) (f := 2) (G := G) gr hi hik (rrT_len od m) rfl (fun t ht h => by
    have := rr_fair nd (mi hi) (mi hk) ht h
    omega) hG
  omega
section
variable {rn : List (List Nat)} {os f : List Nat} {m t : Nat}
theorem pw_den {i k : Nat} {env env0 : Ev} {e1 : PyData → Ev} {p : Tg} {kk : Nat} {src t f : Ev → Res} (hsrc : YQ src env (.own (.fz (.list (rngD 0 os.length))))) (hp : ∀ d, p d env0 = some (e1 d)) (ht : ∀ g, g < os.length → YQ t (e1 (.int (g : Nat))) (.own (.fz (.bool (decide (os.getD g 0 = k)))))) (hf : ∀ g, g < os.length → YQ f (e1 (.int (g : Nat))) (.own (.fz (.int (wv rn i g : Nat))))) (hw1 : ∀ d, wipeE (e1 d) [kk] = env0)
    (hc : [kk].all (calmAt env) = true := by rfl) (hw : wipeE env [kk] = env0 := by rfl) (hr : restE env0 env [kk] = env := by rfl) : YQ (dLc p src t f [kk]) env (.own (.lst ((natsD (((List.range os.length).filter fun g => decide (os.getD g 0 = k)).map (wv rn i))).map .fz))) := by
  have lc := yq_lc (p := p) (src := src) (t := t) (f := f) (vs := [kk]) env0 (fun d => match d with
    | .int j => decide (os.getD j.toNat 0 = k)
    | _ => false) (fun d => match d with
    | .int j => .fz (.int (wv rn i j.toNat : Nat))
    | _ => .fz .none) hsrc (fun d hd => by
      obtain ⟨g, hg, rfl⟩ := rngD_mem hd
      exact ⟨_, hp _, ht g hg, fun _ => hf g hg, hw1 _⟩) hc hw hr
  have e : ((rngD 0 os.length).filter fun d => match d with
    | .int j => decide (os.getD j.toNat 0 = k)
    | _ => false).map (fun d => (match d with
    | .int j => (.fz (.int (wv rn i j.toNat : Nat)) : M)
    | _ => .fz .none)) = (natsD (((List.range os.length).filter fun g => decide (os.getD g 0 = k)).map (wv rn i))).map .fz := by
    rw [rngD_ints, List.filter_map, List.map_map]
    unfold natsD
    rw [List.map_map, List.map_map]
    rfl
  rw [e] at lc
  exact lc
def bun (rn : List (List Nat)) (os : List Nat) (i k : Nat) : List Nat := ((List.range os.length).filter fun g => decide (os.getD g 0 = k)).map (wv rn i)
theorem bun_sum (i k : Nat) : (bun rn os i k).sum = pw rn os i k := by
  unfold bun
  rw [sum_if]
  unfold pw
  congr 1
  apply List.map_congr_left
  intro g _
  simp only [decide_eq_true_eq]
theorem sum_bun {x : Val} {f : Ev → Res} {env : Ev} {l : List Nat} (h : YQ f env x) (hx : valD x = some (.list (natsD l))) : YQ (dG (kPl oSumA) [f]) env (.own (.fz (.int (l.sum : Nat)))) := by
  have z := yq_sumA (ns := l.map fun x : Nat => (x : Int)) h (.inl (by rw [hx, natsD_ints]))
  rw [sum_cast] at z
  exact z
end
theorem nat_le_sum {l : List Nat} {x : Nat} (h : x ∈ l) : x ≤ l.sum := by
  induction l with
  | nil => cases h
  | cons a l ih =>
    rw [List.sum_cons]
    rcases List.mem_cons.mp h with e | h
    · omega
    · have := ih h; omega
theorem mx_ex (l : List Nat) : ∃ M : Nat, M ∈ 0 :: l ∧ (∀ x ∈ l, x ≤ M) ∧ maxI ((0 :: l).map fun x : Nat => (x : Int)) = some (M : Int) := by
  obtain ⟨M, h1, h2, h3⟩ := max_nats (l := 0 :: l) (by simp)
  exact ⟨M, h1, fun x hx => h2 x (List.mem_cons_of_mem _ hx), h3⟩
noncomputable def mx (l : List Nat) : Nat := Classical.choose (mx_ex l)
theorem mx_le {l : List Nat} {x : Nat} (h : x ∈ l) : x ≤ mx l := (Classical.choose_spec (mx_ex l)).2.1 x h
theorem mx_max (l : List Nat) : maxI ((0 :: l).map fun x : Nat => (x : Int)) = some (mx l : Int) := (Classical.choose_spec (mx_ex l)).2.2
theorem mx_sum (l : List Nat) : mx l ≤ l.sum := by
  rcases List.mem_cons.mp (Classical.choose_spec (mx_ex l)).1 with h | h
  · have : mx l = 0 := h
    omega
  · exact nat_le_sum h
section
variable {rn : List (List Nat)} {os f : List Nat} {m t : Nat}
theorem fl_den {c : Nat → Bool} {i : Nat} {env env0 : Ev} {e1 : PyData → Ev} {p : Tg} {kk : Nat} {src t f : Ev → Res} (hsrc : YQ src env (.own (.fz (.list (rngD 0 os.length))))) (hp : ∀ d, p d env0 = some (e1 d)) (ht : ∀ g, g < os.length → YQ t (e1 (.int (g : Nat))) (.own (.fz (.bool (c g))))) (hf : ∀ g, g < os.length → YQ f (e1 (.int (g : Nat))) (.own (.fz (.int (wv rn i g : Nat))))) (hw1 : ∀ d, wipeE (e1 d) [kk] = env0)
    (hc : [kk].all (calmAt env) = true := by rfl) (hw : wipeE env [kk] = env0 := by rfl) (hr : restE env0 env [kk] = env := by rfl) : YQ (dLc p src t f [kk]) env (.own (.lst ((natsD (((List.range os.length).filter c).map (wv rn i))).map .fz))) := by
  have lc := yq_lc (p := p) (src := src) (t := t) (f := f) (vs := [kk]) env0 (fun d => match d with
    | .int j => c j.toNat
    | _ => false) (fun d => match d with
    | .int j => .fz (.int (wv rn i j.toNat : Nat))
    | _ => .fz .none) hsrc (fun d hd => by
      obtain ⟨g, hg, rfl⟩ := rngD_mem hd
      exact ⟨_, hp _, ht g hg, fun _ => hf g hg, hw1 _⟩) hc hw hr
  have e : ((rngD 0 os.length).filter fun d => match d with
    | .int j => c j.toNat
    | _ => false).map (fun d => (match d with
    | .int j => (.fz (.int (wv rn i j.toNat : Nat)) : M)
    | _ => .fz .none)) = (natsD (((List.range os.length).filter c).map (wv rn i))).map .fz := by
    rw [rngD_ints, List.filter_map, List.map_map]
    unfold natsD
    rw [List.map_map, List.map_map]
    rfl
  rw [e] at lc
  exact lc
theorem bun_len (i k : Nat) : (bun rn os i k).length ≤ os.length := by
  unfold bun
  rw [List.length_map]
  exact Nat.le_trans (List.length_filter_le _ _) (by simp)
noncomputable def bG (rn : List (List Nat)) (os : List Nat) (i k : Nat) : Nat := mx (bun rn os i k)
theorem bG_le (i k : Nat) : bG rn os i k ≤ pw rn os i k := by rw [← bun_sum]; exact mx_sum _
theorem bG_ge {i k g : Nat} (hg : g < os.length) (h : os.getD g 0 = k) : wv rn i g ≤ bG rn os i k := mx_le (List.mem_map.mpr ⟨g, List.mem_filter.mpr ⟨List.mem_range.mpr hg, decide_eq_true h⟩, rfl⟩)
end
end Q

set_option Elab.async false
set_option linter.all false
set_option maxRecDepth 100000
set_option maxHeartbeats 8000000
namespace Q
open PySem PySem.Spec PyProof.Rows L2
abbrev prg : Program := PySem.Challenge.pw_fairloaves_k10_whole_turns
def top (i : Nat) : Stmt := prg.main.body.getD i (.Pass ⟨0, 0, 0, 0⟩)
def c_MOST_PEOPLE : PyData := (.int 6)
def c_MOST_GOODS : PyData := (.int 10)
def c_MOST_WISH : PyData := (.int 1000)
def c_MOST_SHARES : PyData := (.int 60000)
def c_WORDS : PyData := (.tuple [(.str "ef"), (.str "efx"), (.str "ef1"), (.str "prop"), (.str "prop1"), (.str "mms"), (.str "pmms"), (.str "gmms"), (.str "eq"), (.str "eqx"), (.str "eq1"), (.str "po"), (.str "fpo"), (.str "util"), (.str "nash"), (.str "leximin"), (.str "ceei")])
def c_BY_ALL_SHARES : PyData := (.tuple [(.str "po"), (.str "util"), (.str "nash"), (.str "leximin")])
def consts : List (Str × PyData) := [("MOST_PEOPLE", c_MOST_PEOPLE), ("MOST_GOODS", c_MOST_GOODS), ("MOST_WISH", c_MOST_WISH), ("MOST_SHARES", c_MOST_SHARES), ("WORDS", c_WORDS), ("BY_ALL_SHARES", c_BY_ALL_SHARES)]
def ks_FINDERS : List (Str × Str) := [("ef", "find_ef"), ("efx", "find_efx"), ("ef1", "find_ef1"), ("prop", "find_prop"), ("prop1", "find_prop1"), ("mms", "find_mms"), ("pmms", "find_pmms"), ("gmms", "find_gmms"), ("eq", "find_eq"), ("eqx", "find_eqx"), ("eq1", "find_eq1"), ("fpo", "find_fpo"), ("ceei", "find_ceei")]
def CC (w : World) (K : PySem.W.Frag) : Prop := consB K consts = true ∧ tabOk K "FINDERS" ks_FINDERS = true ∧ ∃ es n, KDict K w (tadr K "FINDERS") es n
def facts : List He.Fa := [.glo "is_whole", .glo "is_wishes", .glo "is_game", .glo "check_game", .glo "fits_owners", .glo "check_share", .glo "parts_of", .glo "worth", .glo "worth_table", .glo "check_few", .glo "is_order", .glo "favourite", .glo "round_robin", .glo "round_picks", .glo "pairs_of", .glo "envy_lacks", .glo "find_ef1", .glo "found_objection", .glo "check_word", .glo "objection", .glo "holds", .glo "_law_draw", .glo "_law_take", .glo "_law_game", .glo "_law_order", .glo "_law_raises", .glo "law", .free "abs", .free "all", .free "bool", .free "enumerate", .free "int", .free "isinstance", .free "len", .free "list", .free "max", .free "min", .free "range", .free "sorted", .free "str", .free "sum", .free "tuple", .glo "Malformed", .exc "Malformed", .glo "Refused", .exm "Refused" "Malformed" false, .exm "Malformed" "Malformed" true]
abbrev s_is_whole : Stmt := top 5
abbrev s_is_wishes : Stmt := top 11
abbrev s_is_game : Stmt := top 12
abbrev s_check_game : Stmt := top 13
abbrev s_fits_owners : Stmt := top 14
abbrev s_check_share : Stmt := top 15
abbrev s_parts_of : Stmt := top 16
abbrev s_worth : Stmt := top 17
abbrev s_worth_table : Stmt := top 18
abbrev s_check_few : Stmt := top 20
abbrev s_is_order : Stmt := top 25
abbrev s_favourite : Stmt := top 26
abbrev s_round_robin : Stmt := top 27
abbrev s_round_picks : Stmt := top 28
abbrev s_pairs_of : Stmt := top 32
abbrev s_envy_lacks : Stmt := top 35
abbrev s_find_ef1 : Stmt := top 38
abbrev s_found_objection : Stmt := top 57
abbrev s_check_word : Stmt := top 58
abbrev s_objection : Stmt := top 59
abbrev s_holds : Stmt := top 60
abbrev s__law_draw : Stmt := top 62
abbrev s__law_take : Stmt := top 63
abbrev s__law_game : Stmt := top 65
abbrev s__law_order : Stmt := top 67
abbrev s__law_raises : Stmt := top 68
abbrev s_law : Stmt := top 69
def fns : List He.DefD := [defAt s_is_whole "is_whole", defAt s_is_wishes "is_wishes", defAt s_is_game "is_game", defAt s_check_game "check_game", defAt s_fits_owners "fits_owners", defAt s_check_share "check_share", defAt s_parts_of "parts_of", defAt s_worth "worth", defAt s_worth_table "worth_table", defAt s_check_few "check_few", defAt s_is_order "is_order", defAt s_favourite "favourite", defAt s_round_robin "round_robin", defAt s_round_picks "round_picks", defAt s_pairs_of "pairs_of", defAt s_envy_lacks "envy_lacks", defAt s_find_ef1 "find_ef1", defAt s_found_objection "found_objection", defAt s_check_word "check_word", defAt s_objection "objection", defAt s_holds "holds", defAt s__law_draw "_law_draw", defAt s__law_take "_law_take", defAt s__law_game "_law_game", defAt s__law_order "_law_order", defAt s__law_raises "_law_raises", defAt s_law "law"]
def N_is_whole : List Str := ["value"]
def p_is_whole : List Str := ["value"]
def i_is_whole : Nat → Bool := fun i => false
def d_is_whole : Ev → Out :=
  dRet (dAndV (dF id (kIsi .int) [dPk 0]) (dF id kNot [dF id (kIsi .bool) [dPk 0]]))
def N_is_wishes : List Str := ["value", "size", "item"]
def p_is_wishes : List Str := ["value", "size"]
def i_is_wishes : Nat → Bool := fun i => false
def d_is_wishes : Ev → Out :=
  dSeq (dIfS (dIf (dIf (dTru (dF id (kIsi .tuple) [dPk 0])) (dLit (.bool false)) (dLit (.bool true))) (dLit (.bool true)) (dG (kPl oNe) [dG (kLen) [dPk 0], dPk 1])) (dRet (dLit (.bool false))) (dNx))
    (dRet (dG (kPl oAll) [dLc (gNm 2) (dIt (dTk 0)) (dLit (.bool true)) (dAndV (dCall 1 d_is_whole [dPk 2]) (dChain (fun i j => decide (i ≤ j)) (fun i j => decide (i ≤ j)) (dLit (.int 1)) (dPk 2) (dLit c_MOST_WISH))) [2]]))
def N_is_game : List Str := ["value", "row"]
def p_is_game : List Str := ["value"]
def i_is_game : Nat → Bool := fun i => false
def d_is_game : Ev → Out :=
  dSeq (dIfS (dIf (dIf (dTru (dF id (kIsi .tuple) [dPk 0])) (dLit (.bool false)) (dLit (.bool true))) (dLit (.bool true)) (dIf (dIf (dChain (fun i j => decide (i ≤ j)) (fun i j => decide (i ≤ j)) (dLit (.int 1)) (dG (kLen) [dPk 0]) (dLit c_MOST_PEOPLE)) (dLit (.bool false)) (dLit (.bool true))) (dLit (.bool true)) (dIf (dTru (dF id (kIsi .tuple) [dIx (dPk 0) (dLit (.int 0))])) (dLit (.bool false)) (dLit (.bool true))))) (dRet (dLit (.bool false))) (dNx))
    (dRet (dAndV (dChain (fun i j => decide (i ≤ j)) (fun i j => decide (i ≤ j)) (dLit (.int 1)) (dG (kLen) [dIx (dPk 0) (dLit (.int 0))]) (dLit c_MOST_GOODS)) (dG (kPl oAll) [dLc (gNm 1) (dIt (dTk 0)) (dLit (.bool true)) (dCall 3 d_is_wishes [dPk 1, dG (kLen) [dIx (dPk 0) (dLit (.int 0))]]) [1]])))
def N_check_game : List Str := ["game"]
def p_check_game : List Str := ["game"]
def i_check_game : Nat → Bool := fun i => false
def d_check_game : Ev → Out :=
  dIfS (dIf (dTru (dCall 2 d_is_game [dPk 0])) (dLit (.bool false)) (dLit (.bool true))) (dRaise "Malformed") (dNx)
def N_fits_owners : List Str := ["game", "value", "owner"]
def p_fits_owners : List Str := ["game", "value"]
def i_fits_owners : Nat → Bool := fun i => false
def d_fits_owners : Ev → Out :=
  dSeq (dIfS (dIf (dIf (dTru (dF id (kIsi .tuple) [dPk 1])) (dLit (.bool false)) (dLit (.bool true))) (dLit (.bool true)) (dG (kPl oNe) [dG (kLen) [dPk 1], dG (kLen) [dIx (dPk 0) (dLit (.int 0))]])) (dRet (dLit (.bool false))) (dNx))
    (dRet (dG (kPl oAll) [dLc (gNm 2) (dIt (dTk 1)) (dLit (.bool true)) (dAndV (dCall 1 d_is_whole [dPk 2]) (dChain (fun i j => decide (i ≤ j)) (fun i j => decide (i < j)) (dLit (.int 0)) (dPk 2) (dG (kLen) [dPk 0]))) [2]]))
def N_check_share : List Str := ["game", "owners"]
def p_check_share : List Str := ["game", "owners"]
def i_check_share : Nat → Bool := fun i => false
def d_check_share : Ev → Out :=
  dSeq (dEx (dCall 1 d_check_game [dPk 0]))
    (dIfS (dIf (dTru (dCall 3 d_fits_owners [dPk 0, dPk 1])) (dLit (.bool false)) (dLit (.bool true))) (dRaise "Malformed") (dNx))
def N_parts_of : List Str := ["n", "owners", "found", "good", "owner", "_"]
def p_parts_of : List Str := ["n", "owners"]
def i_parts_of : Nat → Bool := fun i => false
def d_parts_of : Ev → Out :=
  dSeq (dSet 2 (dLc (gNm 5) (dG kRng [dPk 0]) (dLit (.bool true)) (dTup []) [5]))
    (dSeq (dFor (gTp [gNm 3, gNm 4]) (dEn (dTk 1)) (dAsg (gPut 2 (dPk 4)) (dG kAdd [dIx (dPk 2) (dPk 4), dTup [dTk 3]])))
    (dRet (dTk 2)))
def N_worth : List Str := ["row", "goods", "good"]
def p_worth : List Str := ["row", "goods"]
def i_worth : Nat → Bool := fun i => false
def d_worth : Ev → Out :=
  dRet (dG (kPl oSumA) [dLc (gNm 2) (dIt (dTk 1)) (dLit (.bool true)) (dIx (dPk 0) (dPk 2)) [2]])
def N_worth_table : List Str := ["game", "owners", "parts", "row", "part"]
def p_worth_table : List Str := ["game", "owners"]
def i_worth_table : Nat → Bool := fun i => false
def d_worth_table : Ev → Out :=
  dSeq (dSet 2 (dCall 6 d_parts_of [dG (kLen) [dPk 0], dPk 1]))
    (dRet (dFr (dLc (gNm 3) (dIt (dTk 0)) (dLit (.bool true)) (dLc (gNm 4) (dIt (dTk 2)) (dLit (.bool true)) (dCall 3 d_worth [dPk 3, dPk 4]) [4]) [3])))
def N_check_few : List Str := ["game", "count", "_"]
def p_check_few : List Str := ["game"]
def i_check_few : Nat → Bool := fun i => false
def d_check_few : Ev → Out :=
  dSeq (dSet 1 (dLit (.int 1)))
    (dSeq (dFor (gNm 2) (dIt (dIx (dPk 0) (dLit (.int 0)))) (dAug 1 (fun i j => if mulOk i j = true then some (i * j) else none) (dG (kLen) [dPk 0])))
    (dIfS (dG (kPl oGt) [dPk 1, dLit c_MOST_SHARES]) (dStk) (dNx)))
def N_is_order : List Str := ["value", "n", "item"]
def p_is_order : List Str := ["value", "n"]
def i_is_order : Nat → Bool := fun i => false
def d_is_order : Ev → Out :=
  dSeq (dIfS (dIf (dIf (dTru (dF id (kIsi .tuple) [dPk 0])) (dLit (.bool false)) (dLit (.bool true))) (dLit (.bool true)) (dIf (dG (kPl oNe) [dG (kLen) [dPk 0], dPk 1]) (dLit (.bool true)) (dIf (dTru (dG (kPl oAll) [dLc (gNm 2) (dIt (dTk 0)) (dLit (.bool true)) (dCall 1 d_is_whole [dPk 2]) [2]])) (dLit (.bool false)) (dLit (.bool true))))) (dRet (dLit (.bool false))) (dNx))
    (dRet (dG (kPl oEq) [dG (kSortA) [dPk 0], dG kLRng [dPk 1]]))
def N_favourite : List Str := ["row", "goods", "good"]
def p_favourite : List Str := ["row", "goods"]
def i_favourite : Nat → Bool := fun i => false
def d_favourite : Ev → Out :=
  dRet (dFr (dIx (dG (kMinA) [dLc (gNm 2) (dIt (dTk 1)) (dLit (.bool true)) (dTup [dOp oNeg [dIx (dPk 0) (dPk 2)], dTk 2]) [2]]) (dLit (.int 1))))
def N_round_robin : List Str := ["game", "order", "left", "owners", "turn", "i", "good", "other"]
def p_round_robin : List Str := ["game", "order"]
def i_round_robin : Nat → Bool := fun i => false
noncomputable def d_round_robin : Ev → Out :=
  dSeq (dEx (dCall 1 d_check_game [dPk 0]))
    (dSeq (dIfS (dIf (dTru (dCall 3 d_is_order [dPk 1, dG (kLen) [dPk 0]])) (dLit (.bool false)) (dLit (.bool true))) (dRaise "Malformed") (dNx))
    (dSeq (dPar3 2 3 4 (dFr (dG kLRng [dG (kLen) [dIx (dPk 0) (dLit (.int 0))]])) (dG kMul [dLst [dLit (.int 0)], dG (kLen) [dIx (dPk 0) (dLit (.int 0))]]) (dLit (.int 0)))
    (dSeq (dWhile (dG (kPl oGt) [dG (kLen) [dPk 2], dLit (.int 0)]) (dSeq (dSet 5 (dFr (dIx (dPk 1) (dG (kPl oMod) [dPk 4, dG (kLen) [dPk 1]]))))
    (dSeq (dSet 6 (dCall 3 d_favourite [dIx (dPk 0) (dPk 5), dPk 2]))
    (dSeq (dAsg (gPut 3 (dPk 6)) (dTk 5))
    (dSeq (dSetF 2 (dLc (gNm 7) (dIt (dTk 2)) (dG (kPl oNe) [dPk 7, dPk 6]) (dTk 7) [7]))
    (dAug 4 (fun i j => some (i + j)) (dLit (.int 1))))))))
    (dRet (dG (kTupOf) [dPk 3])))))
def N_round_picks : List Str := ["game", "order", "owners", "left", "found", "i", "good", "other"]
def p_round_picks : List Str := ["game", "order"]
def i_round_picks : Nat → Bool := fun i => false
noncomputable def d_round_picks : Ev → Out :=
  dSeq (dSet 2 (dCall 8 d_round_robin [dPk 0, dPk 1]))
    (dSeq (dPar 3 4 (dFr (dG kLRng [dG (kLen) [dPk 2]])) (dLst []))
    (dSeq (dWhile (dG (kPl oGt) [dG (kLen) [dPk 3], dLit (.int 0)]) (dSeq (dSet 5 (dFr (dIx (dPk 1) (dG (kPl oMod) [dG (kLen) [dPk 4], dG (kLen) [dPk 1]]))))
    (dSeq (dSet 6 (dCall 3 d_favourite [dIx (dPk 0) (dPk 5), dPk 3]))
    (dSeq (dSetF 3 (dLc (gNm 7) (dIt (dTk 3)) (dG (kPl oNe) [dPk 7, dPk 6]) (dTk 7) [7]))
    (dEx (dApp 4 (dTup [dTk 5, dTk 6])))))))
    (dRet (dG (kTupOf) [dPk 4]))))
def N_pairs_of : List Str := ["n", "i", "k"]
def p_pairs_of : List Str := ["n"]
def i_pairs_of : Nat → Bool := fun i => false
def d_pairs_of : Ev → Out :=
  dRet (dFr (dLc2 (gNm 1) (dG kRng [dPk 0]) (dLit (.bool true)) (gNm 2) (dG kRng [dPk 0]) (dG (kPl oNe) [dPk 1, dPk 2]) (dTup [dTk 1, dTk 2]) [1, 2] [2]))
def N_envy_lacks : List Str := ["table", "i", "k"]
def p_envy_lacks : List Str := ["table", "i", "k"]
def i_envy_lacks : Nat → Bool := fun i => false
def d_envy_lacks : Ev → Out :=
  dRet (dG (kPl oSub) [dIx (dIx (dPk 0) (dPk 1)) (dPk 2), dIx (dIx (dPk 0) (dPk 1)) (dPk 1)])
def N_find_ef1 : List Str := ["game", "owners", "table", "parts", "i", "k", "good"]
def p_find_ef1 : List Str := ["game", "owners"]
def i_find_ef1 : Nat → Bool := fun i => false
def d_find_ef1 : Ev → Out :=
  dSeq (dPar 2 3 (dCall 5 d_worth_table [dPk 0, dPk 1]) (dCall 6 d_parts_of [dG (kLen) [dPk 0], dPk 1]))
    (dSeq (dFor (gTp [gNm 4, gNm 5]) (dIt (dCall 3 d_pairs_of [dG (kLen) [dPk 0]])) (dIfS (dG (kPl oGt) [dCall 3 d_envy_lacks [dPk 2, dPk 4, dPk 5], dG (kPl oMax) [dG kAdd [dLst [dLit (.int 0)], dLc (gNm 6) (dIt (dIx (dPk 3) (dPk 5))) (dLit (.bool true)) (dIx (dIx (dPk 0) (dPk 4)) (dPk 6)) [6]]]]) (dRet (dTup [dLit (.str "ef1"), dTk 4, dTk 5])) (dNx)))
    (dRet (dLit .none)))
def N_found_objection : List Str := ["game", "owners", "word"]
def p_found_objection : List Str := ["game", "owners", "word"]
def i_found_objection : Nat → Bool := fun i => false
def d_found_objection : Ev → Out :=
  dSeq (dIfS (dG (kPl oIn) [dPk 2, dLit c_BY_ALL_SHARES]) (dStk) (dNx))
    (dRet (dFr (dFnd 2 [("ef1", 7, d_find_ef1)] [dPk 0, dPk 1])))
def N_check_word : List Str := ["word"]
def p_check_word : List Str := ["word"]
def i_check_word : Nat → Bool := fun i => false
def d_check_word : Ev → Out :=
  dIfS (dIf (dIf (dTru (dF id (kIsi .str) [dPk 0])) (dLit (.bool false)) (dLit (.bool true))) (dLit (.bool true)) (dG (kPl oNin) [dPk 0, dLit c_WORDS])) (dRaise "Malformed") (dNx)
def N_objection : List Str := ["game", "owners", "word"]
def p_objection : List Str := ["game", "owners", "word"]
def i_objection : Nat → Bool := fun i => false
def d_objection : Ev → Out :=
  dSeq (dEx (dCall 2 d_check_share [dPk 0, dPk 1]))
    (dSeq (dEx (dCall 1 d_check_word [dPk 2]))
    (dSeq (dEx (dCall 3 d_check_few [dPk 0]))
    (dRet (dCall 3 d_found_objection [dPk 0, dPk 1, dPk 2]))))
def N_holds : List Str := ["game", "owners", "word"]
def p_holds : List Str := ["game", "owners", "word"]
def i_holds : Nat → Bool := fun i => false
def d_holds : Ev → Out :=
  dRet (dG (kIs false) [dCall 3 d_objection [dPk 0, dPk 1, dPk 2], dLit .none])
def N__law_draw : List Str := ["script", "seed", "cell"]
def p__law_draw : List Str := ["script"]
def i__law_draw : Nat → Bool := fun i => false
def d__law_draw : Ev → Out :=
  dSeq (dSet 1 (dLit (.int 7)))
    (dSeq (dFor (gNm 2) (dIt (dTk 0)) (dSet 1 (dG (kPl oMod) [dG (kPl oInt) [dG kAdd [dG kAdd [dG kMul [dPk 1, dLit (.int 48271)], dG (kPl oMod) [dG (kPl oAbs) [dG (kPl oInt) [dPk 2]], dLit (.int 65521)]], dLit (.int 1)]], dLit (.int 2147483647)])))
    (dRet (dLst [dFr (dLc (gNm 2) (dIt (dTk 0)) (dLit (.bool true)) (dG (kPl oAbs) [dG (kPl oInt) [dPk 2]]) [2]), dOp oNeg [dLit (.int 1)], dLit (.int 0), dTk 1])))
def N__law_take : List Str := ["draw", "many", "found"]
def p__law_take : List Str := ["draw", "many"]
def i__law_take : Nat → Bool := fun i => i == 0
def d__law_take : Ev → Out :=
  dSeq (dIfS (dG (kPl oEq) [dIx (dPk 0) (dLit (.int 2)), dLit (.int 0)]) (dSeq (dAsg (gPut 0 (dLit (.int 1))) (dG kAdd [dIx (dPk 0) (dLit (.int 1)), dLit (.int 1)]))
    (dSeq (dIfS (dG (kPl oLt) [dIx (dPk 0) (dLit (.int 1)), dG (kLen) [dIx (dPk 0) (dLit (.int 0))]]) (dAsg (gPut 0 (dLit (.int 2))) (dIx (dIx (dPk 0) (dLit (.int 0))) (dIx (dPk 0) (dLit (.int 1))))) (dNx))
    (dIfS (dG (kPl oEq) [dIx (dPk 0) (dLit (.int 2)), dLit (.int 0)]) (dSeq (dAsg (gPut 0 (dLit (.int 3))) (dG (kPl oMod) [dG (kPl oInt) [dG kAdd [dG kMul [dIx (dPk 0) (dLit (.int 3)), dLit (.int 48271)], dLit (.int 11)]], dLit (.int 2147483647)]))
    (dAsg (gPut 0 (dLit (.int 2))) (dIx (dPk 0) (dLit (.int 3))))) (dNx)))) (dNx))
    (dSeq (dSet 2 (dG (kPl oMod) [dG (kPl oInt) [dIx (dPk 0) (dLit (.int 2))], dPk 1]))
    (dSeq (dAsg (gPut 0 (dLit (.int 2))) (dG (kPl oFdiv) [dIx (dPk 0) (dLit (.int 2)), dPk 1]))
    (dRet (dTk 2))))
def N__law_game : List Str := ["draw", "people", "goods", "top", "n", "m", "row", "g", "i"]
def p__law_game : List Str := ["draw", "people", "goods", "top"]
def i__law_game : Nat → Bool := fun i => i == 0
def d__law_game : Ev → Out :=
  dSeq (dAsg (gTp [gNm 4, gNm 5]) (dTup [dFr (dG kAdd [dLit (.int 1), dCallI 3 d__law_take [.io 0, .v (dTk 1)]]), dFr (dG kAdd [dLit (.int 1), dCallI 3 d__law_take [.io 0, .v (dTk 2)]])]))
    (dSeq (dSet 3 (dFr (dIx (dLst [dLit (.int 1), dLit (.int 2), dLit (.int 3), dTk 3]) (dCallI 3 d__law_take [.io 0, .v (dLit (.int 4))]))))
    (dSeq (dIfS (dG (kPl oEq) [dCallI 3 d__law_take [.io 0, .v (dLit (.int 6))], dLit (.int 0)]) (dSeq (dSet 6 (dG (kTupOf) [dLc (gNm 7) (dG kRng [dPk 5]) (dLit (.bool true)) (dG kAdd [dLit (.int 1), dCallI 3 d__law_take [.io 0, .v (dTk 3)]]) [7]]))
    (dRet (dG (kTupOf) [dLc (gNm 8) (dG kRng [dPk 4]) (dLit (.bool true)) (dTk 6) [8]]))) (dNx))
    (dRet (dG (kTupOf) [dLc (gNm 8) (dG kRng [dPk 4]) (dLit (.bool true)) (dG (kTupOf) [dLc (gNm 7) (dG kRng [dPk 5]) (dLit (.bool true)) (dG kAdd [dLit (.int 1), dCallI 3 d__law_take [.io 0, .v (dTk 3)]]) [7]]) [8]]))))
def N__law_order : List Str := ["draw", "n", "left", "found", "i"]
def p__law_order : List Str := ["draw", "n"]
def i__law_order : Nat → Bool := fun i => i == 0
noncomputable def d__law_order : Ev → Out :=
  dSeq (dSet 2 (dLc (gNm 4) (dG kRng [dPk 1]) (dLit (.bool true)) (dTk 4) [4]))
    (dSeq (dSet 3 (dLst []))
    (dSeq (dWhile (dG (kPl oNe) [dPk 2, dLst []]) (dEx (dApp 3 (dPop 2 (dCallI 3 d__law_take [.io 0, .v (dG (kLen) [dPk 2])])))))
    (dRet (dG (kTupOf) [dPk 3]))))
def N__law_raises : List Str := ["which", "game", "order"]
def p__law_raises : List Str := ["which", "game", "order"]
def i__law_raises : Nat → Bool := fun i => false
noncomputable def d__law_raises : Ev → Out :=
  dSeq (dTry (dIfS (dG (kPl oEq) [dPk 0, dLit (.int 0)]) (dEx (dCall 8 d_round_robin [dPk 1, dPk 2])) (dEx (dCall 8 d_round_picks [dPk 1, dPk 2]))) [([("Malformed", true), ("Refused", false)], dRet (dLit (.bool true)))])
    (dRet (dLit (.bool false)))
def N_law : List Str := ["script", "draw", "game", "order", "m", "free", "picks", "turn", "i", "best", "g", "owners", "own", "k", "other", "small", "one", "two"]
def p_law : List Str := ["script"]
def i_law : Nat → Bool := fun i => false
noncomputable def d_law : Ev → Out :=
  dSeq (dSet 1 (dCall 3 d__law_draw [dPk 0]))
    (dSeq (dSet 2 (dCallI 9 d__law_game [.io 1, .v (dLit (.int 5)), .v (dLit (.int 8)), .v (dLit (.int 9))]))
    (dSeq (dSet 3 (dCallI 5 d__law_order [.io 1, .v (dG (kLen) [dPk 2])]))
    (dSeq (dSet 4 (dG (kLen) [dIx (dPk 2) (dLit (.int 0))]))
    (dSeq (dPar 5 6 (dLc (gNm 10) (dG kRng [dPk 4]) (dLit (.bool true)) (dLit (.bool true)) [10]) (dLst []))
    (dSeq (dFor (gNm 7) (dG kRng [dPk 4]) (dSeq (dSet 8 (dFr (dIx (dPk 3) (dG (kPl oMod) [dG (kPl oInt) [dPk 7], dG (kLen) [dPk 3]]))))
    (dSeq (dSet 9 (dOp oNeg [dLit (.int 1)]))
    (dSeq (dFor (gNm 10) (dG kRng [dPk 4]) (dIfS (dIf (dTru (dIx (dPk 5) (dPk 10))) (dIf (dG (kPl oLt) [dPk 9, dLit (.int 0)]) (dLit (.bool true)) (dG (kPl oGt) [dIx (dIx (dPk 2) (dPk 8)) (dPk 10), dIx (dIx (dPk 2) (dPk 8)) (dPk 9)])) (dLit (.bool false))) (dSet 9 (dTk 10)) (dNx)))
    (dSeq (dAsg (gPut 5 (dPk 9)) (dLit (.bool false)))
    (dEx (dApp 6 (dTup [dTk 8, dTk 9]))))))))
    (dSeq (dSet 11 (dLc (gNm 10) (dG kRng [dPk 4]) (dLit (.bool true)) (dLit (.int 0)) [10]))
    (dSeq (dFor (gTp [gNm 8, gNm 10]) (dIt (dTk 6)) (dAsg (gPut 11 (dPk 10)) (dTk 8)))
    (dSeq (dIfS (dIf (dG (kPl oNe) [dCall 8 d_round_picks [dPk 2, dPk 3], dG (kTupOf) [dPk 6]]) (dLit (.bool true)) (dG (kPl oNe) [dCall 8 d_round_robin [dPk 2, dPk 3], dG (kTupOf) [dPk 11]])) (dRet (dLit (.bool false))) (dNx))
    (dSeq (dFor (gNm 8) (dG kRng [dG (kLen) [dPk 2]]) (dSeq (dSet 12 (dG (kPl oSumA) [dLc (gNm 10) (dG kRng [dPk 4]) (dG (kPl oEq) [dIx (dPk 11) (dPk 10), dPk 8]) (dIx (dIx (dPk 2) (dPk 8)) (dPk 10)) [10]]))
    (dFor (gNm 13) (dG kRng [dG (kLen) [dPk 2]]) (dSeq (dSetF 14 (dLc (gNm 10) (dG kRng [dPk 4]) (dG (kPl oEq) [dIx (dPk 11) (dPk 10), dPk 13]) (dIx (dIx (dPk 2) (dPk 8)) (dPk 10)) [10]))
    (dIfS (dIf (dG (kPl oNe) [dPk 13, dPk 8]) (dIf (dG (kPl oNe) [dPk 14, dLst []]) (dG (kPl oLt) [dPk 12, dG (kPl oSub) [dG (kPl oSumA) [dPk 14], dG (kPl oMax) [dPk 14]]]) (dLit (.bool false))) (dLit (.bool false))) (dRet (dLit (.bool false))) (dNx))))))
    (dSeq (dSet 15 (dLit (.int 1)))
    (dSeq (dFor (gNm 10) (dG kRng [dPk 4]) (dSet 15 (dFr (dG kMul [dPk 15, dG (kLen) [dPk 2]]))))
    (dSeq (dIfS (dIf (dG (kPl oLe) [dPk 15, dLit (.int 60000)]) (dG (kIs true) [dCall 3 d_holds [dPk 2, dG (kTupOf) [dPk 11], dLit (.str "ef1")], dLit (.bool true)]) (dLit (.bool false))) (dRet (dLit (.bool false))) (dNx))
    (dSeq (dFor (gTp [gNm 16, gNm 17]) (dIt (dLst [dTup [dLit .none, dTk 3], dTup [dTk 2, dLit .none], dTup [dTk 2, dFr (dG kAdd [dPk 3, dTup [dLit (.int 0)]])], dTup [dTk 2, dFr (dF Ql.n (kSl1 false) [dPk 3, dOp oNeg [dLit (.int 1)]])], dTup [dTk 2, dFr (dG (kLstOf) [dPk 3])], dTup [dTk 2, dFr (dG kAdd [dG (kTupOf) [dLc (gNm 8) (dIt (dTk 3)) (dLit (.bool true)) (dLit (.int 0)) [8]], dTup [dLit (.int 0)]])], dTup [dTup [], dTup []], dTup [dTk 2, dFr (dG kAdd [dF Ql.n (kSl1 false) [dPk 3, dOp oNeg [dLit (.int 1)]], dTup [dG (kLen) [dPk 2]]])]])) (dIfS (dIf (dIf (dTru (dCall 3 d__law_raises [dLit (.int 0), dPk 16, dPk 17])) (dLit (.bool false)) (dLit (.bool true))) (dLit (.bool true)) (dIf (dTru (dCall 3 d__law_raises [dLit (.int 1), dPk 16, dPk 17])) (dLit (.bool false)) (dLit (.bool true)))) (dRet (dLit (.bool false))) (dNx)))
    (dRet (dLit (.bool true))))))))))))))))
section
variable {P : Program} {w : World} {K : PySem.W.Frag} {h : Heap} {mg : Str → Option Value} {base : Heap}
theorem sc_is_whole : FnScope N_is_whole p_is_whole (defScope s_is_whole) := ⟨rfl, rfl, rfl, by decide +kernel, rfl, by decide +kernel, by decide +kernel⟩
theorem f_is_whole (X : K.In h) (G : h.Ns mainGlobals mg) (c : He.SaysD facts fns K) (cc : CC w K) : HasF P w K mg base 1 "is_whole" p_is_whole N_is_whole i_is_whole d_is_whole := by
  have b_bool := He.free_ok X G (c.fact 29 (f := .free "bool") rfl)
  have b_int := He.free_ok X G (c.fact 31 (f := .free "int") rfl)
  have b_isinstance := He.free_ok X G (c.fact 32 (f := .free "isinstance") rfl)
  refine hasF (k := 0) X G c 0 0 rfl rfl sc_is_whole (fun _ _ _ _ _ _ us hl => match us, hl with | [_], _ => rfl) fun cdv A outer s H E hr => ?_
  have nd : N_is_whole.Nodup := sc_is_whole.nd
  exact sss_one (ss_ret (se_andV (isi_ .int (pk 0) b_isinstance b_int) (se_one (se_notV (isi_ .bool (pk 0) b_isinstance b_bool)))))
theorem sc_is_wishes : FnScope N_is_wishes p_is_wishes (defScope s_is_wishes) := ⟨rfl, rfl, rfl, by decide +kernel, rfl, by decide +kernel, by decide +kernel⟩
theorem f_is_wishes (X : K.In h) (G : h.Ns mainGlobals mg) (c : He.SaysD facts fns K) (cc : CC w K) : HasF P w K mg base 2 "is_wishes" p_is_wishes N_is_wishes i_is_wishes d_is_wishes := by
  have b_all := He.free_ok X G (c.fact 28 (f := .free "all") rfl)
  have b_isinstance := He.free_ok X G (c.fact 32 (f := .free "isinstance") rfl)
  have b_len := He.free_ok X G (c.fact 33 (f := .free "len") rfl)
  have b_tuple := He.free_ok X G (c.fact 41 (f := .free "tuple") rfl)
  have k_MOST_WISH := con_at X G cc.1 2 (x := "MOST_WISH") (d := c_MOST_WISH) rfl
  have f_is_whole := (f_is_whole (P := P) (w := w) (base := base) X G c cc).mono (k := 1) (by decide)
  refine hasF (k := 1) X G c 1 1 rfl rfl sc_is_wishes (fun _ _ _ _ _ _ us hl => match us, hl with | [_, _], _ => rfl) fun cdv A outer s H E hr => ?_
  have nd : N_is_wishes.Nodup := sc_is_wishes.nd
  exact sss_cons (ss_if ((stw_or (st_not (st_tru (isi_ .tuple (pk 0) b_isinstance b_tuple))) (stw_or1 (ct (opd_ne hr.units) (cB callv_len (sa_cons (pk 0) (sa_nil)) b_len) (pk 1)))).st) (sss_one (ss_ret (se_bl))) (sss_nil))
    (sss_one (ss_ret (cB (callv_all rfl) (sa_cons (se_lc (own := [("item", 2)]) rfl nd (si_val (tk 0)) (blkOk_by (by rfl)) (fun _ _ _ _ _ => nm 2 nd) (fun _ _ _ _ _ => sts_nil) (fun _ _ _ _ _ => se_andV ((by exact call_ f_is_whole hr (sa_cons (pk 2) (sa_nil)))) (se_one (se_chain op_le op_le (se_int) (pk 2) (se_con k_MOST_WISH))))) (sa_nil)) b_all)))
theorem sc_is_game : FnScope N_is_game p_is_game (defScope s_is_game) := ⟨rfl, rfl, rfl, by decide +kernel, rfl, by decide +kernel, by decide +kernel⟩
theorem f_is_game (X : K.In h) (G : h.Ns mainGlobals mg) (c : He.SaysD facts fns K) (cc : CC w K) : HasF P w K mg base 3 "is_game" p_is_game N_is_game i_is_game d_is_game := by
  have b_all := He.free_ok X G (c.fact 28 (f := .free "all") rfl)
  have b_isinstance := He.free_ok X G (c.fact 32 (f := .free "isinstance") rfl)
  have b_len := He.free_ok X G (c.fact 33 (f := .free "len") rfl)
  have b_tuple := He.free_ok X G (c.fact 41 (f := .free "tuple") rfl)
  have k_MOST_PEOPLE := con_at X G cc.1 0 (x := "MOST_PEOPLE") (d := c_MOST_PEOPLE) rfl
  have k_MOST_GOODS := con_at X G cc.1 1 (x := "MOST_GOODS") (d := c_MOST_GOODS) rfl
  have f_is_wishes := (f_is_wishes (P := P) (w := w) (base := base) X G c cc).mono (k := 2) (by decide)
  refine hasF (k := 2) X G c 2 2 rfl rfl sc_is_game (fun _ _ _ _ _ _ us hl => match us, hl with | [_], _ => rfl) fun cdv A outer s H E hr => ?_
  have nd : N_is_game.Nodup := sc_is_game.nd
  exact sss_cons (ss_if ((stw_or (st_not (st_tru (isi_ .tuple (pk 0) b_isinstance b_tuple))) (stw_or (st_not (st_chain op_le op_le (se_int) (cB callv_len (sa_cons (pk 0) (sa_nil)) b_len) (se_con k_MOST_PEOPLE))) (stw_or1 (st_not (st_tru (isi_ .tuple (ix_ (pk 0) (se_int)) b_isinstance b_tuple)))))).st) (sss_one (ss_ret (se_bl))) (sss_nil))
    (sss_one (ss_ret (se_andV (se_chain op_le op_le (se_int) (cB callv_len (sa_cons (ix_ (pk 0) (se_int)) (sa_nil)) b_len) (se_con k_MOST_GOODS)) (se_one (cB (callv_all rfl) (sa_cons (se_lc (own := [("row", 1)]) rfl nd (si_val (tk 0)) (blkOk_by (by rfl)) (fun _ _ _ _ _ => nm 1 nd) (fun _ _ _ _ _ => sts_nil) (fun _ _ _ _ _ => (by exact call_ f_is_wishes hr (sa_cons (pk 1) (sa_cons (cB callv_len (sa_cons (ix_ (pk 0) (se_int)) (sa_nil)) b_len) (sa_nil)))))) (sa_nil)) b_all)))))
theorem sc_check_game : FnScope N_check_game p_check_game (defScope s_check_game) := ⟨rfl, rfl, rfl, by decide +kernel, rfl, by decide +kernel, by decide +kernel⟩
theorem f_check_game (X : K.In h) (G : h.Ns mainGlobals mg) (c : He.SaysD facts fns K) (cc : CC w K) : HasF P w K mg base 4 "check_game" p_check_game N_check_game i_check_game d_check_game := by
  have g_Malformed := He.glo_ok X G (c.fact 42 (f := .glo "Malformed") rfl)
  have x_Malformed := He.exc_ok (c.fact 43 (f := .exc "Malformed") rfl)
  have f_is_game := (f_is_game (P := P) (w := w) (base := base) X G c cc).mono (k := 3) (by decide)
  refine hasF (k := 3) X G c 3 3 rfl rfl sc_check_game (fun _ _ _ _ _ _ us hl => match us, hl with | [_], _ => rfl) fun cdv A outer s H E hr => ?_
  have nd : N_check_game.Nodup := sc_check_game.nd
  exact sss_one (ss_if (st_not (st_tru ((by exact call_ f_is_game hr (sa_cons (pk 0) (sa_nil)))))) (sss_one (ss_raise rfl x_Malformed.1 g_Malformed x_Malformed.2.1 x_Malformed.2.2.1 x_Malformed.2.2.2 rfl)) (sss_nil))
theorem sc_fits_owners : FnScope N_fits_owners p_fits_owners (defScope s_fits_owners) := ⟨rfl, rfl, rfl, by decide +kernel, rfl, by decide +kernel, by decide +kernel⟩
theorem f_fits_owners (X : K.In h) (G : h.Ns mainGlobals mg) (c : He.SaysD facts fns K) (cc : CC w K) : HasF P w K mg base 2 "fits_owners" p_fits_owners N_fits_owners i_fits_owners d_fits_owners := by
  have b_all := He.free_ok X G (c.fact 28 (f := .free "all") rfl)
  have b_isinstance := He.free_ok X G (c.fact 32 (f := .free "isinstance") rfl)
  have b_len := He.free_ok X G (c.fact 33 (f := .free "len") rfl)
  have b_tuple := He.free_ok X G (c.fact 41 (f := .free "tuple") rfl)
  have f_is_whole := (f_is_whole (P := P) (w := w) (base := base) X G c cc).mono (k := 1) (by decide)
  refine hasF (k := 1) X G c 4 4 rfl rfl sc_fits_owners (fun _ _ _ _ _ _ us hl => match us, hl with | [_, _], _ => rfl) fun cdv A outer s H E hr => ?_
  have nd : N_fits_owners.Nodup := sc_fits_owners.nd
  exact sss_cons (ss_if ((stw_or (st_not (st_tru (isi_ .tuple (pk 1) b_isinstance b_tuple))) (stw_or1 (ct (opd_ne hr.units) (cB callv_len (sa_cons (pk 1) (sa_nil)) b_len) (cB callv_len (sa_cons (ix_ (pk 0) (se_int)) (sa_nil)) b_len)))).st) (sss_one (ss_ret (se_bl))) (sss_nil))
    (sss_one (ss_ret (cB (callv_all rfl) (sa_cons (se_lc (own := [("owner", 2)]) rfl nd (si_val (tk 1)) (blkOk_by (by rfl)) (fun _ _ _ _ _ => nm 2 nd) (fun _ _ _ _ _ => sts_nil) (fun _ _ _ _ _ => se_andV ((by exact call_ f_is_whole hr (sa_cons (pk 2) (sa_nil)))) (se_one (se_chain op_le op_lt (se_int) (pk 2) (cB callv_len (sa_cons (pk 0) (sa_nil)) b_len))))) (sa_nil)) b_all)))
theorem sc_check_share : FnScope N_check_share p_check_share (defScope s_check_share) := ⟨rfl, rfl, rfl, by decide +kernel, rfl, by decide +kernel, by decide +kernel⟩
theorem f_check_share (X : K.In h) (G : h.Ns mainGlobals mg) (c : He.SaysD facts fns K) (cc : CC w K) : HasF P w K mg base 5 "check_share" p_check_share N_check_share i_check_share d_check_share := by
  have g_Malformed := He.glo_ok X G (c.fact 42 (f := .glo "Malformed") rfl)
  have x_Malformed := He.exc_ok (c.fact 43 (f := .exc "Malformed") rfl)
  have f_check_game := (f_check_game (P := P) (w := w) (base := base) X G c cc).mono (k := 4) (by decide)
  have f_fits_owners := (f_fits_owners (P := P) (w := w) (base := base) X G c cc).mono (k := 4) (by decide)
  refine hasF (k := 4) X G c 5 5 rfl rfl sc_check_share (fun _ _ _ _ _ _ us hl => match us, hl with | [_, _], _ => rfl) fun cdv A outer s H E hr => ?_
  have nd : N_check_share.Nodup := sc_check_share.nd
  exact sss_cons (ss_expr ((by exact call_ f_check_game hr (sa_cons (pk 0) (sa_nil)))))
    (sss_one (ss_if (st_not (st_tru ((by exact call_ f_fits_owners hr (sa_cons (pk 0) (sa_cons (pk 1) (sa_nil))))))) (sss_one (ss_raise rfl x_Malformed.1 g_Malformed x_Malformed.2.1 x_Malformed.2.2.1 x_Malformed.2.2.2 rfl)) (sss_nil)))
theorem sc_parts_of : FnScope N_parts_of p_parts_of (defScope s_parts_of) := ⟨rfl, rfl, rfl, by decide +kernel, rfl, by decide +kernel, by decide +kernel⟩
theorem f_parts_of (X : K.In h) (G : h.Ns mainGlobals mg) (c : He.SaysD facts fns K) (cc : CC w K) : HasF P w K mg base 1 "parts_of" p_parts_of N_parts_of i_parts_of d_parts_of := by
  have b_enumerate := He.free_ok X G (c.fact 30 (f := .free "enumerate") rfl)
  have b_range := He.free_ok X G (c.fact 37 (f := .free "range") rfl)
  refine hasF (k := 0) X G c 6 6 rfl rfl sc_parts_of (fun _ _ _ _ _ _ us hl => match us, hl with | [_, _], _ => rfl) fun cdv A outer s H E hr => ?_
  have nd : N_parts_of.Nodup := sc_parts_of.nd
  exact sss_cons (ss_setLc (i := 2) (own := [("_", 5)]) rfl nd rfl rfl (sw_true rfl rfl rfl rfl) (si_rng1 rfl b_range (pk 0)) (blkOk_by (by rfl)) (fun _ _ _ _ _ => nm 5 nd) (fun _ _ _ _ _ => sts_nil) (fun _ _ _ _ _ => tup_ (sa_nil)))
    (sss_cons (ss_for (passes_of rfl) rfl (si_enum rfl b_enumerate (tk 1)) (sg_tup rfl (sgs_cons (nm 3 nd) (sgs_cons (nm 4 nd) (sgs_nil)))) (sss_one (ss_asg (e_add (ix_ (pk 2) (pk 4)) (tup_ (sa_cons (tk 3) (sa_nil)))) (put 2 (pk 4)))))
    (sss_one (ss_ret (tk 2))))
theorem sc_worth : FnScope N_worth p_worth (defScope s_worth) := ⟨rfl, rfl, rfl, by decide +kernel, rfl, by decide +kernel, by decide +kernel⟩
theorem f_worth (X : K.In h) (G : h.Ns mainGlobals mg) (c : He.SaysD facts fns K) (cc : CC w K) : HasF P w K mg base 1 "worth" p_worth N_worth i_worth d_worth := by
  have b_sum := He.free_ok X G (c.fact 40 (f := .free "sum") rfl)
  refine hasF (k := 0) X G c 7 7 rfl rfl sc_worth (fun _ _ _ _ _ _ us hl => match us, hl with | [_, _], _ => rfl) fun cdv A outer s H E hr => ?_
  have nd : N_worth.Nodup := sc_worth.nd
  exact sss_one (ss_ret (cB (callv_sumA rfl) (sa_cons (se_lc (own := [("good", 2)]) rfl nd (si_val (tk 1)) (blkOk_by (by rfl)) (fun _ _ _ _ _ => nm 2 nd) (fun _ _ _ _ _ => sts_nil) (fun _ _ _ _ _ => ix_ (pk 0) (pk 2))) (sa_nil)) b_sum))
theorem sc_worth_table : FnScope N_worth_table p_worth_table (defScope s_worth_table) := ⟨rfl, rfl, rfl, by decide +kernel, rfl, by decide +kernel, by decide +kernel⟩
theorem f_worth_table (X : K.In h) (G : h.Ns mainGlobals mg) (c : He.SaysD facts fns K) (cc : CC w K) : HasF P w K mg base 2 "worth_table" p_worth_table N_worth_table i_worth_table d_worth_table := by
  have b_len := He.free_ok X G (c.fact 33 (f := .free "len") rfl)
  have f_parts_of := (f_parts_of (P := P) (w := w) (base := base) X G c cc).mono (k := 1) (by decide)
  have f_worth := (f_worth (P := P) (w := w) (base := base) X G c cc).mono (k := 1) (by decide)
  refine hasF (k := 1) X G c 8 8 rfl rfl sc_worth_table (fun _ _ _ _ _ _ us hl => match us, hl with | [_, _], _ => rfl) fun cdv A outer s H E hr => ?_
  have nd : N_worth_table.Nodup := sc_worth_table.nd
  exact sss_cons (set_ 2 nd ((by exact call_ f_parts_of hr (sa_cons (cB callv_len (sa_cons (pk 0) (sa_nil)) b_len) (sa_cons (pk 1) (sa_nil))))))
    (sss_one (ss_ret (se_fr (se_lc (own := [("row", 3)]) rfl nd (si_val (tk 0)) (blkOk_by (by rfl)) (fun _ _ _ _ _ => nm 3 nd) (fun _ _ _ _ _ => sts_nil) (fun _ _ _ _ _ => se_lc (own := [("part", 4)]) rfl nd (si_val (tk 2)) (blkOk_by (by rfl)) (fun _ _ _ _ _ => nm 4 nd) (fun _ _ _ _ _ => sts_nil) (fun _ _ _ _ _ => (by exact call_ f_worth hr (sa_cons (pk 3) (sa_cons (pk 4) (sa_nil))))))))))
theorem sc_check_few : FnScope N_check_few p_check_few (defScope s_check_few) := ⟨rfl, rfl, rfl, by decide +kernel, rfl, by decide +kernel, by decide +kernel⟩
theorem f_check_few (X : K.In h) (G : h.Ns mainGlobals mg) (c : He.SaysD facts fns K) (cc : CC w K) : HasF P w K mg base 1 "check_few" p_check_few N_check_few i_check_few d_check_few := by
  have b_len := He.free_ok X G (c.fact 33 (f := .free "len") rfl)
  have k_MOST_SHARES := con_at X G cc.1 3 (x := "MOST_SHARES") (d := c_MOST_SHARES) rfl
  refine hasF (k := 0) X G c 9 9 rfl rfl sc_check_few (fun _ _ _ _ _ _ us hl => match us, hl with | [_], _ => rfl) fun cdv A outer s H E hr => ?_
  have nd : N_check_few.Nodup := sc_check_few.nd
  exact sss_cons (set_ 1 nd (se_int))
    (sss_cons (ss_for (passes_of rfl) rfl (si_val (ix_ (pk 0) (se_int))) (nm 2 nd) (sss_one (aug_ ip_mulO 1 nd (cB callv_len (sa_cons (pk 0) (sa_nil)) b_len))))
    (sss_one (ss_if (ct (opd_gt) (pk 1) (se_con k_MOST_SHARES)) (sss_one (ss_stk)) (sss_nil))))
theorem sc_is_order : FnScope N_is_order p_is_order (defScope s_is_order) := ⟨rfl, rfl, rfl, by decide +kernel, rfl, by decide +kernel, by decide +kernel⟩
theorem f_is_order (X : K.In h) (G : h.Ns mainGlobals mg) (c : He.SaysD facts fns K) (cc : CC w K) : HasF P w K mg base 2 "is_order" p_is_order N_is_order i_is_order d_is_order := by
  have b_all := He.free_ok X G (c.fact 28 (f := .free "all") rfl)
  have b_isinstance := He.free_ok X G (c.fact 32 (f := .free "isinstance") rfl)
  have b_len := He.free_ok X G (c.fact 33 (f := .free "len") rfl)
  have b_list := He.free_ok X G (c.fact 34 (f := .free "list") rfl)
  have b_range := He.free_ok X G (c.fact 37 (f := .free "range") rfl)
  have b_sorted := He.free_ok X G (c.fact 38 (f := .free "sorted") rfl)
  have b_tuple := He.free_ok X G (c.fact 41 (f := .free "tuple") rfl)
  have f_is_whole := (f_is_whole (P := P) (w := w) (base := base) X G c cc).mono (k := 1) (by decide)
  refine hasF (k := 1) X G c 10 10 rfl rfl sc_is_order (fun _ _ _ _ _ _ us hl => match us, hl with | [_, _], _ => rfl) fun cdv A outer s H E hr => ?_
  have nd : N_is_order.Nodup := sc_is_order.nd
  exact sss_cons (ss_if ((stw_or (st_not (st_tru (isi_ .tuple (pk 0) b_isinstance b_tuple))) (stw_or (ct (opd_ne hr.units) (cB callv_len (sa_cons (pk 0) (sa_nil)) b_len) (pk 1)) (stw_or1 (st_not (st_tru (cB (callv_all rfl) (sa_cons (se_lc (own := [("item", 2)]) rfl nd (si_val (tk 0)) (blkOk_by (by rfl)) (fun _ _ _ _ _ => nm 2 nd) (fun _ _ _ _ _ => sts_nil) (fun _ _ _ _ _ => (by exact call_ f_is_whole hr (sa_cons (pk 2) (sa_nil))))) (sa_nil)) b_all)))))).st) (sss_one (ss_ret (se_bl))) (sss_nil))
    (sss_one (ss_ret (cv (opd_eq hr.units) (cB callv_sortA (sa_cons (pk 0) (sa_nil)) b_sorted) (se_lrng rfl b_list b_range (pk 1)))))
theorem sc_favourite : FnScope N_favourite p_favourite (defScope s_favourite) := ⟨rfl, rfl, rfl, by decide +kernel, rfl, by decide +kernel, by decide +kernel⟩
theorem f_favourite (X : K.In h) (G : h.Ns mainGlobals mg) (c : He.SaysD facts fns K) (cc : CC w K) : HasF P w K mg base 1 "favourite" p_favourite N_favourite i_favourite d_favourite := by
  have b_min := He.free_ok X G (c.fact 36 (f := .free "min") rfl)
  refine hasF (k := 0) X G c 11 11 rfl rfl sc_favourite (fun _ _ _ _ _ _ us hl => match us, hl with | [_, _], _ => rfl) fun cdv A outer s H E hr => ?_
  have nd : N_favourite.Nodup := sc_favourite.nd
  exact sss_one (ss_ret (se_fr (ix_ (cB (callv_minA rfl (room65 hr)) (sa_cons (se_lc (own := [("good", 2)]) rfl nd (si_val (tk 1)) (blkOk_by (by rfl)) (fun _ _ _ _ _ => nm 2 nd) (fun _ _ _ _ _ => sts_nil) (fun _ _ _ _ _ => tup_ (sa_cons (e_neg (ix_ (pk 0) (pk 2))) (sa_cons (tk 2) (sa_nil))))) (sa_nil)) b_min) (se_int))))
theorem sc_round_robin : FnScope N_round_robin p_round_robin (defScope s_round_robin) := ⟨rfl, rfl, rfl, by decide +kernel, rfl, by decide +kernel, by decide +kernel⟩
theorem f_round_robin (X : K.In h) (G : h.Ns mainGlobals mg) (c : He.SaysD facts fns K) (cc : CC w K) : HasF P w K mg base 5 "round_robin" p_round_robin N_round_robin i_round_robin d_round_robin := by
  have b_len := He.free_ok X G (c.fact 33 (f := .free "len") rfl)
  have b_list := He.free_ok X G (c.fact 34 (f := .free "list") rfl)
  have b_range := He.free_ok X G (c.fact 37 (f := .free "range") rfl)
  have b_tuple := He.free_ok X G (c.fact 41 (f := .free "tuple") rfl)
  have g_Malformed := He.glo_ok X G (c.fact 42 (f := .glo "Malformed") rfl)
  have x_Malformed := He.exc_ok (c.fact 43 (f := .exc "Malformed") rfl)
  have f_check_game := (f_check_game (P := P) (w := w) (base := base) X G c cc).mono (k := 4) (by decide)
  have f_favourite := (f_favourite (P := P) (w := w) (base := base) X G c cc).mono (k := 4) (by decide)
  have f_is_order := (f_is_order (P := P) (w := w) (base := base) X G c cc).mono (k := 4) (by decide)
  refine hasF (k := 4) X G c 12 12 rfl rfl sc_round_robin (fun _ _ _ _ _ _ us hl => match us, hl with | [_, _], _ => rfl) fun cdv A outer s H E hr => ?_
  have nd : N_round_robin.Nodup := sc_round_robin.nd
  exact sss_cons (ss_expr ((by exact call_ f_check_game hr (sa_cons (pk 0) (sa_nil)))))
    (sss_cons (ss_if (st_not (st_tru ((by exact call_ f_is_order hr (sa_cons (pk 1) (sa_cons (cB callv_len (sa_cons (pk 0) (sa_nil)) b_len) (sa_nil))))))) (sss_one (ss_raise rfl x_Malformed.1 g_Malformed x_Malformed.2.1 x_Malformed.2.2.1 x_Malformed.2.2.2 rfl)) (sss_nil))
    (sss_cons (ss_par3 (i := 2) (j := 3) (l := 4) rfl nd rfl rfl rfl (by decide) (by decide) (by decide) rfl rfl rfl (sa_cons (se_fr (se_lrng rfl b_list b_range (cB callv_len (sa_cons (ix_ (pk 0) (se_int)) (sa_nil)) b_len))) (sa_cons (e_mul (lst_ (sa_cons (se_int) (sa_nil))) (cB callv_len (sa_cons (ix_ (pk 0) (se_int)) (sa_nil)) b_len)) (sa_cons (se_int) (sa_nil)))) rfl)
    (sss_cons (ss_while (passes_of rfl) (ct (opd_gt) (cB callv_len (sa_cons (pk 2) (sa_nil)) b_len) (se_int)) (sss_cons (set_ 5 nd (se_fr (ix_ (pk 1) (e_mod (pk 4) (cB callv_len (sa_cons (pk 1) (sa_nil)) b_len)))))
    (sss_cons (set_ 6 nd ((by exact call_ f_favourite hr (sa_cons (ix_ (pk 0) (pk 5)) (sa_cons (pk 2) (sa_nil))))))
    (sss_cons (ss_asg (tk 5) (put 3 (pk 6)))
    (sss_cons (ss_setLcF (i := 2) (own := [("other", 7)]) rfl nd rfl rfl (sw_true rfl rfl rfl rfl) (si_val (tk 2)) (blkOk_by (by rfl)) (fun _ _ _ _ _ => nm 7 nd) (fun _ _ _ _ _ => sts_one (ct (opd_ne hr.units) (pk 7) (pk 6))) (fun _ _ _ _ _ => tk 7))
    (sss_one (aug_ ip_addO 4 nd (se_int))))))))
    (sss_one (ss_ret (cT callv_tup (sa_cons (pk 3) (sa_nil)) b_tuple))))))
theorem sc_round_picks : FnScope N_round_picks p_round_picks (defScope s_round_picks) := ⟨rfl, rfl, rfl, by decide +kernel, rfl, by decide +kernel, by decide +kernel⟩
theorem f_round_picks (X : K.In h) (G : h.Ns mainGlobals mg) (c : He.SaysD facts fns K) (cc : CC w K) : HasF P w K mg base 6 "round_picks" p_round_picks N_round_picks i_round_picks d_round_picks := by
  have b_len := He.free_ok X G (c.fact 33 (f := .free "len") rfl)
  have b_list := He.free_ok X G (c.fact 34 (f := .free "list") rfl)
  have b_range := He.free_ok X G (c.fact 37 (f := .free "range") rfl)
  have b_tuple := He.free_ok X G (c.fact 41 (f := .free "tuple") rfl)
  have f_favourite := (f_favourite (P := P) (w := w) (base := base) X G c cc).mono (k := 5) (by decide)
  have f_round_robin := (f_round_robin (P := P) (w := w) (base := base) X G c cc).mono (k := 5) (by decide)
  refine hasF (k := 5) X G c 13 13 rfl rfl sc_round_picks (fun _ _ _ _ _ _ us hl => match us, hl with | [_, _], _ => rfl) fun cdv A outer s H E hr => ?_
  have nd : N_round_picks.Nodup := sc_round_picks.nd
  exact sss_cons (set_ 2 nd ((by exact call_ f_round_robin hr (sa_cons (pk 0) (sa_cons (pk 1) (sa_nil))))))
    (sss_cons (ss_par (i := 3) (j := 4) rfl nd rfl rfl (by decide) rfl rfl (sa_cons (se_fr (se_lrng rfl b_list b_range (cB callv_len (sa_cons (pk 2) (sa_nil)) b_len))) (sa_cons (lst_ (sa_nil)) (sa_nil))) rfl)
    (sss_cons (ss_while (passes_of rfl) (ct (opd_gt) (cB callv_len (sa_cons (pk 3) (sa_nil)) b_len) (se_int)) (sss_cons (set_ 5 nd (se_fr (ix_ (pk 1) (e_mod (cB callv_len (sa_cons (pk 4) (sa_nil)) b_len) (cB callv_len (sa_cons (pk 1) (sa_nil)) b_len)))))
    (sss_cons (set_ 6 nd ((by exact call_ f_favourite hr (sa_cons (ix_ (pk 0) (pk 5)) (sa_cons (pk 3) (sa_nil))))))
    (sss_cons (ss_setLcF (i := 3) (own := [("other", 7)]) rfl nd rfl rfl (sw_true rfl rfl rfl rfl) (si_val (tk 3)) (blkOk_by (by rfl)) (fun _ _ _ _ _ => nm 7 nd) (fun _ _ _ _ _ => sts_one (ct (opd_ne hr.units) (pk 7) (pk 6))) (fun _ _ _ _ _ => tk 7))
    (sss_one (ss_expr (app_ 4 (tup_ (sa_cons (tk 5) (sa_cons (tk 6) (sa_nil)))))))))))
    (sss_one (ss_ret (cT callv_tup (sa_cons (pk 4) (sa_nil)) b_tuple)))))
theorem sc_pairs_of : FnScope N_pairs_of p_pairs_of (defScope s_pairs_of) := ⟨rfl, rfl, rfl, by decide +kernel, rfl, by decide +kernel, by decide +kernel⟩
theorem f_pairs_of (X : K.In h) (G : h.Ns mainGlobals mg) (c : He.SaysD facts fns K) (cc : CC w K) : HasF P w K mg base 1 "pairs_of" p_pairs_of N_pairs_of i_pairs_of d_pairs_of := by
  have b_range := He.free_ok X G (c.fact 37 (f := .free "range") rfl)
  refine hasF (k := 0) X G c 14 14 rfl rfl sc_pairs_of (fun _ _ _ _ _ _ us hl => match us, hl with | [_], _ => rfl) fun cdv A outer s H E hr => ?_
  have nd : N_pairs_of.Nodup := sc_pairs_of.nd
  exact sss_one (ss_ret (se_fr (se_lc2 (own := [("i", 1), ("k", 2)]) rfl nd (si_rng1 rfl b_range (pk 0)) (blkOk_by (by rfl)) (by rfl) (fun _ _ _ _ _ => nm 1 nd) (fun _ _ _ _ _ => sts_nil) (fun _ _ _ _ _ => si_rng1 rfl b_range (pk 0)) (fun _ _ _ _ _ => nm 2 nd) (fun _ _ _ _ _ => sts_one (ct (opd_ne hr.units) (pk 1) (pk 2))) (fun _ _ _ _ _ => tup_ (sa_cons (tk 1) (sa_cons (tk 2) (sa_nil)))))))
theorem sc_envy_lacks : FnScope N_envy_lacks p_envy_lacks (defScope s_envy_lacks) := ⟨rfl, rfl, rfl, by decide +kernel, rfl, by decide +kernel, by decide +kernel⟩
theorem f_envy_lacks (X : K.In h) (G : h.Ns mainGlobals mg) (c : He.SaysD facts fns K) (cc : CC w K) : HasF P w K mg base 1 "envy_lacks" p_envy_lacks N_envy_lacks i_envy_lacks d_envy_lacks := by
  refine hasF (k := 0) X G c 15 15 rfl rfl sc_envy_lacks (fun _ _ _ _ _ _ us hl => match us, hl with | [_, _, _], _ => rfl) fun cdv A outer s H E hr => ?_
  have nd : N_envy_lacks.Nodup := sc_envy_lacks.nd
  exact sss_one (ss_ret (e_sub (ix_ (ix_ (pk 0) (pk 1)) (pk 2)) (ix_ (ix_ (pk 0) (pk 1)) (pk 1))))
theorem sc_find_ef1 : FnScope N_find_ef1 p_find_ef1 (defScope s_find_ef1) := ⟨rfl, rfl, rfl, by decide +kernel, rfl, by decide +kernel, by decide +kernel⟩
theorem f_find_ef1 (X : K.In h) (G : h.Ns mainGlobals mg) (c : He.SaysD facts fns K) (cc : CC w K) : HasF P w K mg base 3 "find_ef1" p_find_ef1 N_find_ef1 i_find_ef1 d_find_ef1 := by
  have b_len := He.free_ok X G (c.fact 33 (f := .free "len") rfl)
  have b_max := He.free_ok X G (c.fact 35 (f := .free "max") rfl)
  have f_envy_lacks := (f_envy_lacks (P := P) (w := w) (base := base) X G c cc).mono (k := 2) (by decide)
  have f_pairs_of := (f_pairs_of (P := P) (w := w) (base := base) X G c cc).mono (k := 2) (by decide)
  have f_parts_of := (f_parts_of (P := P) (w := w) (base := base) X G c cc).mono (k := 2) (by decide)
  have f_worth_table := (f_worth_table (P := P) (w := w) (base := base) X G c cc).mono (k := 2) (by decide)
  refine hasF (k := 2) X G c 16 16 rfl rfl sc_find_ef1 (fun _ _ _ _ _ _ us hl => match us, hl with | [_, _], _ => rfl) fun cdv A outer s H E hr => ?_
  have nd : N_find_ef1.Nodup := sc_find_ef1.nd
  exact sss_cons (ss_par (i := 2) (j := 3) rfl nd rfl rfl (by decide) rfl rfl (sa_cons ((by exact call_ f_worth_table hr (sa_cons (pk 0) (sa_cons (pk 1) (sa_nil))))) (sa_cons ((by exact call_ f_parts_of hr (sa_cons (cB callv_len (sa_cons (pk 0) (sa_nil)) b_len) (sa_cons (pk 1) (sa_nil))))) (sa_nil))) rfl)
    (sss_cons (ss_for (passes_of rfl) rfl (si_val ((by exact call_ f_pairs_of hr (sa_cons (cB callv_len (sa_cons (pk 0) (sa_nil)) b_len) (sa_nil))))) (sg_tup rfl (sgs_cons (nm 4 nd) (sgs_cons (nm 5 nd) (sgs_nil)))) (sss_one (ss_if (ct (opd_gt) ((by exact call_ f_envy_lacks hr (sa_cons (pk 2) (sa_cons (pk 4) (sa_cons (pk 5) (sa_nil)))))) (cB (callv_max rfl) (sa_cons (e_add (lst_ (sa_cons (se_int) (sa_nil))) ((by exact se_lc (own := [("good", 6)]) rfl nd (si_val (ix_ (pk 3) (pk 5))) (blkOk_by (by rfl)) (fun _ _ _ _ _ => nm 6 nd) (fun _ _ _ _ _ => sts_nil) (fun _ _ _ _ _ => ix_ (ix_ (pk 0) (pk 4)) (pk 6))))) (sa_nil)) b_max)) (sss_one (ss_ret (tup_ (sa_cons (se_str) (sa_cons (tk 4) (sa_cons (tk 5) (sa_nil))))))) (sss_nil))))
    (sss_one (ss_ret (se_non))))
theorem sc_found_objection : FnScope N_found_objection p_found_objection (defScope s_found_objection) := ⟨rfl, rfl, rfl, by decide +kernel, rfl, by decide +kernel, by decide +kernel⟩
theorem f_found_objection (X : K.In h) (G : h.Ns mainGlobals mg) (c : He.SaysD facts fns K) (cc : CC w K) : HasF P w K mg base 4 "found_objection" p_found_objection N_found_objection i_found_objection d_found_objection := by
  have k_BY_ALL_SHARES := con_at X G cc.1 5 (x := "BY_ALL_SHARES") (d := c_BY_ALL_SHARES) rfl
  have t_FINDERS := tab_ok X G cc.2.1 cc.2.2
  have f_find_ef1 := (f_find_ef1 (P := P) (w := w) (base := base) X G c cc).mono (k := 3) (by decide)
  refine hasF (k := 3) X G c 17 17 rfl rfl sc_found_objection (fun _ _ _ _ _ _ us hl => match us, hl with | [_, _, _], _ => rfl) fun cdv A outer s H E hr => ?_
  have nd : N_found_objection.Nodup := sc_found_objection.nd
  exact sss_cons (ss_if (ct (opd_in (room65 hr)) (pk 2) (se_con k_BY_ALL_SHARES)) (sss_one (ss_stk)) (sss_nil))
    (sss_one (ss_ret (se_fr ((by exact fnd_ t_FINDERS hr (.cons f_find_ef1 rfl rfl (by decide) (.nil)) (sa_cons (pk 0) (sa_cons (pk 1) (sa_nil))))))))
theorem sc_check_word : FnScope N_check_word p_check_word (defScope s_check_word) := ⟨rfl, rfl, rfl, by decide +kernel, rfl, by decide +kernel, by decide +kernel⟩
theorem f_check_word (X : K.In h) (G : h.Ns mainGlobals mg) (c : He.SaysD facts fns K) (cc : CC w K) : HasF P w K mg base 1 "check_word" p_check_word N_check_word i_check_word d_check_word := by
  have b_isinstance := He.free_ok X G (c.fact 32 (f := .free "isinstance") rfl)
  have b_str := He.free_ok X G (c.fact 39 (f := .free "str") rfl)
  have g_Malformed := He.glo_ok X G (c.fact 42 (f := .glo "Malformed") rfl)
  have x_Malformed := He.exc_ok (c.fact 43 (f := .exc "Malformed") rfl)
  have k_WORDS := con_at X G cc.1 4 (x := "WORDS") (d := c_WORDS) rfl
  refine hasF (k := 0) X G c 18 18 rfl rfl sc_check_word (fun _ _ _ _ _ _ us hl => match us, hl with | [_], _ => rfl) fun cdv A outer s H E hr => ?_
  have nd : N_check_word.Nodup := sc_check_word.nd
  exact sss_one (ss_if ((stw_or (st_not (st_tru (isi_ .str (pk 0) b_isinstance b_str))) (stw_or1 (ct (opd_nin (room65 hr)) (pk 0) (se_con k_WORDS)))).st) (sss_one (ss_raise rfl x_Malformed.1 g_Malformed x_Malformed.2.1 x_Malformed.2.2.1 x_Malformed.2.2.2 rfl)) (sss_nil))
theorem sc_objection : FnScope N_objection p_objection (defScope s_objection) := ⟨rfl, rfl, rfl, by decide +kernel, rfl, by decide +kernel, by decide +kernel⟩
theorem f_objection (X : K.In h) (G : h.Ns mainGlobals mg) (c : He.SaysD facts fns K) (cc : CC w K) : HasF P w K mg base 6 "objection" p_objection N_objection i_objection d_objection := by
  have f_check_few := (f_check_few (P := P) (w := w) (base := base) X G c cc).mono (k := 5) (by decide)
  have f_check_share := (f_check_share (P := P) (w := w) (base := base) X G c cc).mono (k := 5) (by decide)
  have f_check_word := (f_check_word (P := P) (w := w) (base := base) X G c cc).mono (k := 5) (by decide)
  have f_found_objection := (f_found_objection (P := P) (w := w) (base := base) X G c cc).mono (k := 5) (by decide)
  refine hasF (k := 5) X G c 19 19 rfl rfl sc_objection (fun _ _ _ _ _ _ us hl => match us, hl with | [_, _, _], _ => rfl) fun cdv A outer s H E hr => ?_
  have nd : N_objection.Nodup := sc_objection.nd
  exact sss_cons (ss_expr ((by exact call_ f_check_share hr (sa_cons (pk 0) (sa_cons (pk 1) (sa_nil))))))
    (sss_cons (ss_expr ((by exact call_ f_check_word hr (sa_cons (pk 2) (sa_nil)))))
    (sss_cons (ss_expr ((by exact call_ f_check_few hr (sa_cons (pk 0) (sa_nil)))))
    (sss_one (ss_ret ((by exact call_ f_found_objection hr (sa_cons (pk 0) (sa_cons (pk 1) (sa_cons (pk 2) (sa_nil))))))))))
theorem sc_holds : FnScope N_holds p_holds (defScope s_holds) := ⟨rfl, rfl, rfl, by decide +kernel, rfl, by decide +kernel, by decide +kernel⟩
theorem f_holds (X : K.In h) (G : h.Ns mainGlobals mg) (c : He.SaysD facts fns K) (cc : CC w K) : HasF P w K mg base 7 "holds" p_holds N_holds i_holds d_holds := by
  have f_objection := (f_objection (P := P) (w := w) (base := base) X G c cc).mono (k := 6) (by decide)
  refine hasF (k := 6) X G c 20 20 rfl rfl sc_holds (fun _ _ _ _ _ _ us hl => match us, hl with | [_, _, _], _ => rfl) fun cdv A outer s H E hr => ?_
  have nd : N_holds.Nodup := sc_holds.nd
  exact sss_one (ss_ret (cvk opv_is ((by exact call_ f_objection hr (sa_cons (pk 0) (sa_cons (pk 1) (sa_cons (pk 2) (sa_nil)))))) (se_non)))
theorem sc__law_draw : FnScope N__law_draw p__law_draw (defScope s__law_draw) := ⟨rfl, rfl, rfl, by decide +kernel, rfl, by decide +kernel, by decide +kernel⟩
theorem f__law_draw (X : K.In h) (G : h.Ns mainGlobals mg) (c : He.SaysD facts fns K) (cc : CC w K) : HasF P w K mg base 1 "_law_draw" p__law_draw N__law_draw i__law_draw d__law_draw := by
  have b_abs := He.free_ok X G (c.fact 27 (f := .free "abs") rfl)
  have b_int := He.free_ok X G (c.fact 31 (f := .free "int") rfl)
  refine hasF (k := 0) X G c 21 21 rfl rfl sc__law_draw (fun _ _ _ _ _ _ us hl => match us, hl with | [_], _ => rfl) fun cdv A outer s H E hr => ?_
  have nd : N__law_draw.Nodup := sc__law_draw.nd
  exact sss_cons (set_ 1 nd (se_int))
    (sss_cons (ss_for (passes_of rfl) rfl (si_val (tk 0)) (nm 2 nd) (sss_one (set_ 1 nd (e_mod (cT callv_int (sa_cons (e_add (e_add (e_mul (pk 1) (se_int)) (e_mod (cB callv_abs (sa_cons (cT callv_int (sa_cons (pk 2) (sa_nil)) b_int) (sa_nil)) b_abs) (se_int))) (se_int)) (sa_nil)) b_int) (se_int)))))
    (sss_one (ss_ret (lst_ (sa_cons (se_fr (se_lc (own := [("cell", 2)]) rfl nd (si_val (tk 0)) (blkOk_by (by rfl)) (fun _ _ _ _ _ => nm 2 nd) (fun _ _ _ _ _ => sts_nil) (fun _ _ _ _ _ => cB callv_abs (sa_cons (cT callv_int (sa_cons (pk 2) (sa_nil)) b_int) (sa_nil)) b_abs))) (sa_cons (e_neg (se_int)) (sa_cons (se_int) (sa_cons (tk 1) (sa_nil)))))))))
theorem sc__law_take : FnScope N__law_take p__law_take (defScope s__law_take) := ⟨rfl, rfl, rfl, by decide +kernel, rfl, by decide +kernel, by decide +kernel⟩
theorem f__law_take (X : K.In h) (G : h.Ns mainGlobals mg) (c : He.SaysD facts fns K) (cc : CC w K) : HasF P w K mg base 1 "_law_take" p__law_take N__law_take i__law_take d__law_take := by
  have b_int := He.free_ok X G (c.fact 31 (f := .free "int") rfl)
  have b_len := He.free_ok X G (c.fact 33 (f := .free "len") rfl)
  refine hasF (k := 0) X G c 22 22 rfl rfl sc__law_take (fun _ _ _ _ _ _ us hl => match us, hl with | [_, _], _ => rfl) fun cdv A outer s H E hr => ?_
  have nd : N__law_take.Nodup := sc__law_take.nd
  exact sss_cons (ss_if (ct (opd_eq hr.units) (ix_ (pk 0) (se_int)) (se_int)) (sss_cons (ss_asg (e_add (ix_ (pk 0) (se_int)) (se_int)) (put 0 (se_int)))
    (sss_cons (ss_if (ct (opd_lt) (ix_ (pk 0) (se_int)) (cB callv_len (sa_cons (ix_ (pk 0) (se_int)) (sa_nil)) b_len)) (sss_one (ss_asg (ix_ (ix_ (pk 0) (se_int)) (ix_ (pk 0) (se_int))) (put 0 (se_int)))) (sss_nil))
    (sss_one (ss_if (ct (opd_eq hr.units) (ix_ (pk 0) (se_int)) (se_int)) (sss_cons (ss_asg (e_mod (cT callv_int (sa_cons (e_add (e_mul (ix_ (pk 0) (se_int)) (se_int)) (se_int)) (sa_nil)) b_int) (se_int)) (put 0 (se_int)))
    (sss_one (ss_asg (ix_ (pk 0) (se_int)) (put 0 (se_int))))) (sss_nil))))) (sss_nil))
    (sss_cons (set_ 2 nd (e_mod (cT callv_int (sa_cons (ix_ (pk 0) (se_int)) (sa_nil)) b_int) (pk 1)))
    (sss_cons (ss_asg (e_div (ix_ (pk 0) (se_int)) (pk 1)) (put 0 (se_int)))
    (sss_one (ss_ret (tk 2)))))
theorem sc__law_game : FnScope N__law_game p__law_game (defScope s__law_game) := ⟨rfl, rfl, rfl, by decide +kernel, rfl, by decide +kernel, by decide +kernel⟩
theorem f__law_game (X : K.In h) (G : h.Ns mainGlobals mg) (c : He.SaysD facts fns K) (cc : CC w K) : HasF P w K mg base 2 "_law_game" p__law_game N__law_game i__law_game d__law_game := by
  have b_range := He.free_ok X G (c.fact 37 (f := .free "range") rfl)
  have b_tuple := He.free_ok X G (c.fact 41 (f := .free "tuple") rfl)
  have f__law_take := (f__law_take (P := P) (w := w) (base := base) X G c cc).mono (k := 1) (by decide)
  refine hasF (k := 1) X G c 23 23 rfl rfl sc__law_game (fun _ _ _ _ _ _ us hl => match us, hl with | [_, _, _, _], _ => rfl) fun cdv A outer s H E hr => ?_
  have nd : N__law_game.Nodup := sc__law_game.nd
  exact sss_cons (ss_asg (tup_ (sa_cons (se_fr (e_add (se_int) ((by exact callI_ f__law_take hr (aio 0 (saa_v (tk 1) (saa_nil))))))) (sa_cons (se_fr (e_add (se_int) ((by exact callI_ f__law_take hr (aio 0 (saa_v (tk 2) (saa_nil))))))) (sa_nil)))) (sg_tup rfl (sgs_cons (nm 4 nd) (sgs_cons (nm 5 nd) (sgs_nil)))))
    (sss_cons (set_ 3 nd (se_fr (ix_ (lst_ (sa_cons (se_int) (sa_cons (se_int) (sa_cons (se_int) (sa_cons (tk 3) (sa_nil)))))) ((by exact callI_ f__law_take hr (aio 0 (saa_v (se_int) (saa_nil))))))))
    (sss_cons (ss_if (ct (opd_eq hr.units) ((by exact callI_ f__law_take hr (aio 0 (saa_v (se_int) (saa_nil))))) (se_int)) (sss_cons (set_ 6 nd (cT callv_tup (sa_cons (se_lc (own := [("g", 7)]) rfl nd (si_rng1 rfl b_range (pk 5)) (blkOk_by (by rfl)) (fun _ _ _ _ _ => nm 7 nd) (fun _ _ _ _ _ => sts_nil) (fun _ _ _ _ _ => e_add (se_int) ((by exact callI_ f__law_take hr (aio 0 (saa_v (tk 3) (saa_nil))))))) (sa_nil)) b_tuple))
    (sss_one (ss_ret (cT callv_tup (sa_cons (se_lc (own := [("i", 8)]) rfl nd (si_rng1 rfl b_range (pk 4)) (blkOk_by (by rfl)) (fun _ _ _ _ _ => nm 8 nd) (fun _ _ _ _ _ => sts_nil) (fun _ _ _ _ _ => tk 6)) (sa_nil)) b_tuple)))) (sss_nil))
    (sss_one (ss_ret (cT callv_tup (sa_cons (se_lc (own := [("i", 8)]) rfl nd (si_rng1 rfl b_range (pk 4)) (blkOk_by (by rfl)) (fun _ _ _ _ _ => nm 8 nd) (fun _ _ _ _ _ => sts_nil) (fun _ _ _ _ _ => cT callv_tup (sa_cons (se_lc (own := [("g", 7)]) rfl nd (si_rng1 rfl b_range (pk 5)) (blkOk_by (by rfl)) (fun _ _ _ _ _ => nm 7 nd) (fun _ _ _ _ _ => sts_nil) (fun _ _ _ _ _ => e_add (se_int) ((by exact callI_ f__law_take hr (aio 0 (saa_v (tk 3) (saa_nil))))))) (sa_nil)) b_tuple)) (sa_nil)) b_tuple)))))
theorem sc__law_order : FnScope N__law_order p__law_order (defScope s__law_order) := ⟨rfl, rfl, rfl, by decide +kernel, rfl, by decide +kernel, by decide +kernel⟩
theorem f__law_order (X : K.In h) (G : h.Ns mainGlobals mg) (c : He.SaysD facts fns K) (cc : CC w K) : HasF P w K mg base 2 "_law_order" p__law_order N__law_order i__law_order d__law_order := by
  have b_len := He.free_ok X G (c.fact 33 (f := .free "len") rfl)
  have b_range := He.free_ok X G (c.fact 37 (f := .free "range") rfl)
  have b_tuple := He.free_ok X G (c.fact 41 (f := .free "tuple") rfl)
  have f__law_take := (f__law_take (P := P) (w := w) (base := base) X G c cc).mono (k := 1) (by decide)
  refine hasF (k := 1) X G c 24 24 rfl rfl sc__law_order (fun _ _ _ _ _ _ us hl => match us, hl with | [_, _], _ => rfl) fun cdv A outer s H E hr => ?_
  have nd : N__law_order.Nodup := sc__law_order.nd
  exact sss_cons (ss_setLc (i := 2) (own := [("i", 4)]) rfl nd rfl rfl (sw_true rfl rfl rfl rfl) (si_rng1 rfl b_range (pk 1)) (blkOk_by (by rfl)) (fun _ _ _ _ _ => nm 4 nd) (fun _ _ _ _ _ => sts_nil) (fun _ _ _ _ _ => tk 4))
    (sss_cons (set_ 3 nd (lst_ (sa_nil)))
    (sss_cons (ss_while (passes_of rfl) (ct (opd_ne hr.units) (pk 2) (lst_ (sa_nil))) (sss_one (ss_expr (app_ 3 (pop_ 2 ((by exact callI_ f__law_take hr (aio 0 (saa_v (cB callv_len (sa_cons (pk 2) (sa_nil)) b_len) (saa_nil))))))))))
    (sss_one (ss_ret (cT callv_tup (sa_cons (pk 3) (sa_nil)) b_tuple)))))
theorem sc__law_raises : FnScope N__law_raises p__law_raises (defScope s__law_raises) := ⟨rfl, rfl, rfl, by decide +kernel, rfl, by decide +kernel, by decide +kernel⟩
theorem f__law_raises (X : K.In h) (G : h.Ns mainGlobals mg) (c : He.SaysD facts fns K) (cc : CC w K) : HasF P w K mg base 7 "_law_raises" p__law_raises N__law_raises i__law_raises d__law_raises := by
  have g_Malformed := He.glo_ok X G (c.fact 42 (f := .glo "Malformed") rfl)
  have g_Refused := He.glo_ok X G (c.fact 44 (f := .glo "Refused") rfl)
  have m_Refused_Malformed := He.exm_ok (c.fact 45 (f := .exm "Refused" "Malformed" false) rfl)
  have m_Malformed_Malformed := He.exm_ok (c.fact 46 (f := .exm "Malformed" "Malformed" true) rfl)
  have f_round_picks := (f_round_picks (P := P) (w := w) (base := base) X G c cc).mono (k := 6) (by decide)
  have f_round_robin := (f_round_robin (P := P) (w := w) (base := base) X G c cc).mono (k := 6) (by decide)
  refine hasF (k := 6) X G c 25 25 rfl rfl sc__law_raises (fun _ _ _ _ _ _ us hl => match us, hl with | [_, _, _], _ => rfl) fun cdv A outer s H E hr => ?_
  have nd : N__law_raises.Nodup := sc__law_raises.nd
  exact sss_cons (ss_try1 rfl rfl ⟨rfl, by decide, .inl g_Malformed⟩ (taker_cons g_Malformed m_Malformed_Malformed (taker_cons g_Refused m_Refused_Malformed (taker_nil))) (fun pn xe hp => sss_one (ss_if (ct (opd_eq hr.units) (pk 0) (se_int)) (sss_one (ss_expr ((by exact call_ f_round_robin hr (sa_cons (pk 1) (sa_cons (pk 2) (sa_nil))))))) (sss_one (ss_expr ((by exact call_ f_round_picks hr (sa_cons (pk 1) (sa_cons (pk 2) (sa_nil))))))))) (fun p pn => sss_one (ss_ret (se_bl))))
    (sss_one (ss_ret (se_bl)))
theorem sc_law : FnScope N_law p_law (defScope s_law) := ⟨rfl, rfl, rfl, by decide +kernel, rfl, by decide +kernel, by decide +kernel⟩
theorem f_law (X : K.In h) (G : h.Ns mainGlobals mg) (c : He.SaysD facts fns K) (cc : CC w K) : HasF P w K mg base 8 "law" p_law N_law i_law d_law := by
  have b_int := He.free_ok X G (c.fact 31 (f := .free "int") rfl)
  have b_len := He.free_ok X G (c.fact 33 (f := .free "len") rfl)
  have b_list := He.free_ok X G (c.fact 34 (f := .free "list") rfl)
  have b_max := He.free_ok X G (c.fact 35 (f := .free "max") rfl)
  have b_range := He.free_ok X G (c.fact 37 (f := .free "range") rfl)
  have b_sum := He.free_ok X G (c.fact 40 (f := .free "sum") rfl)
  have b_tuple := He.free_ok X G (c.fact 41 (f := .free "tuple") rfl)
  have f__law_draw := (f__law_draw (P := P) (w := w) (base := base) X G c cc).mono (k := 7) (by decide)
  have f__law_game := (f__law_game (P := P) (w := w) (base := base) X G c cc).mono (k := 7) (by decide)
  have f__law_order := (f__law_order (P := P) (w := w) (base := base) X G c cc).mono (k := 7) (by decide)
  have f__law_raises := (f__law_raises (P := P) (w := w) (base := base) X G c cc).mono (k := 7) (by decide)
  have f_holds := (f_holds (P := P) (w := w) (base := base) X G c cc).mono (k := 7) (by decide)
  have f_round_picks := (f_round_picks (P := P) (w := w) (base := base) X G c cc).mono (k := 7) (by decide)
  have f_round_robin := (f_round_robin (P := P) (w := w) (base := base) X G c cc).mono (k := 7) (by decide)
  refine hasF (k := 7) X G c 26 26 rfl rfl sc_law (fun _ _ _ _ _ _ us hl => match us, hl with | [_], _ => rfl) fun cdv A outer s H E hr => ?_
  have nd : N_law.Nodup := sc_law.nd
  exact sss_cons (set_ 1 nd ((by exact call_ f__law_draw hr (sa_cons (pk 0) (sa_nil)))))
    (sss_cons (set_ 2 nd ((by exact callI_ f__law_game hr (aio 1 (saa_v (se_int) (saa_v (se_int) (saa_v (se_int) (saa_nil))))))))
    (sss_cons (set_ 3 nd ((by exact callI_ f__law_order hr (aio 1 (saa_v (cB callv_len (sa_cons (pk 2) (sa_nil)) b_len) (saa_nil))))))
    (sss_cons (set_ 4 nd (cB callv_len (sa_cons (ix_ (pk 2) (se_int)) (sa_nil)) b_len))
    (sss_cons (ss_par (i := 5) (j := 6) rfl nd rfl rfl (by decide) rfl rfl (sa_cons (se_lc (own := [("g", 10)]) rfl nd (si_rng1 rfl b_range (pk 4)) (blkOk_by (by rfl)) (fun _ _ _ _ _ => nm 10 nd) (fun _ _ _ _ _ => sts_nil) (fun _ _ _ _ _ => se_bl)) (sa_cons (lst_ (sa_nil)) (sa_nil))) rfl)
    (sss_cons (ss_for (passes_of rfl) rfl (si_rng1 rfl b_range (pk 4)) (nm 7 nd) (sss_cons (set_ 8 nd (se_fr (ix_ (pk 3) (e_mod (cT callv_int (sa_cons (pk 7) (sa_nil)) b_int) (cB callv_len (sa_cons (pk 3) (sa_nil)) b_len)))))
    (sss_cons (set_ 9 nd (e_neg (se_int)))
    (sss_cons (ss_for (passes_of rfl) rfl (si_rng1 rfl b_range (pk 4)) (nm 10 nd) (sss_one (ss_if ((stw_and (st_tru (ix_ (pk 5) (pk 10))) (stw_and1 ((stw_or (ct (opd_lt) (pk 9) (se_int)) (stw_or1 (ct (opd_gt) (ix_ (ix_ (pk 2) (pk 8)) (pk 10)) (ix_ (ix_ (pk 2) (pk 8)) (pk 9))))).st))).st) (sss_one (set_ 9 nd (tk 10))) (sss_nil))))
    (sss_cons (ss_asg (se_bl) (put 5 (pk 9)))
    (sss_one (ss_expr (app_ 6 (tup_ (sa_cons (tk 8) (sa_cons (tk 9) (sa_nil))))))))))))
    (sss_cons (set_ 11 nd (se_lc (own := [("g", 10)]) rfl nd (si_rng1 rfl b_range (pk 4)) (blkOk_by (by rfl)) (fun _ _ _ _ _ => nm 10 nd) (fun _ _ _ _ _ => sts_nil) (fun _ _ _ _ _ => se_int)))
    (sss_cons (ss_for (passes_of rfl) rfl (si_val (tk 6)) (sg_tup rfl (sgs_cons (nm 8 nd) (sgs_cons (nm 10 nd) (sgs_nil)))) (sss_one (ss_asg (tk 8) (put 11 (pk 10)))))
    (sss_cons (ss_if ((stw_or (ct (opd_ne hr.units) ((by exact call_ f_round_picks hr (sa_cons (pk 2) (sa_cons (pk 3) (sa_nil))))) (cT callv_tup (sa_cons (pk 6) (sa_nil)) b_tuple)) (stw_or1 (ct (opd_ne hr.units) ((by exact call_ f_round_robin hr (sa_cons (pk 2) (sa_cons (pk 3) (sa_nil))))) (cT callv_tup (sa_cons (pk 11) (sa_nil)) b_tuple)))).st) (sss_one (ss_ret (se_bl))) (sss_nil))
    (sss_cons (ss_for (passes_of rfl) rfl (si_rng1 rfl b_range (cB callv_len (sa_cons (pk 2) (sa_nil)) b_len)) (nm 8 nd) (sss_cons (set_ 12 nd (cB (callv_sumA rfl) (sa_cons (se_lc (own := [("g", 10)]) rfl nd (si_rng1 rfl b_range (pk 4)) (blkOk_by (by rfl)) (fun _ _ _ _ _ => nm 10 nd) (fun _ _ _ _ _ => sts_one (ct (opd_eq hr.units) (ix_ (pk 11) (pk 10)) (pk 8))) (fun _ _ _ _ _ => ix_ (ix_ (pk 2) (pk 8)) (pk 10))) (sa_nil)) b_sum))
    (sss_one (ss_for (passes_of rfl) rfl (si_rng1 rfl b_range (cB callv_len (sa_cons (pk 2) (sa_nil)) b_len)) (nm 13 nd) (sss_cons (ss_setLcF (i := 14) (own := [("g", 10)]) rfl nd rfl rfl (sw_true rfl rfl rfl rfl) (si_rng1 rfl b_range (pk 4)) (blkOk_by (by rfl)) (fun _ _ _ _ _ => nm 10 nd) (fun _ _ _ _ _ => sts_one (ct (opd_eq hr.units) (ix_ (pk 11) (pk 10)) (pk 13))) (fun _ _ _ _ _ => ix_ (ix_ (pk 2) (pk 8)) (pk 10)))
    (sss_one (ss_if ((stw_and (ct (opd_ne hr.units) (pk 13) (pk 8)) (stw_and (ct (opd_ne hr.units) (pk 14) (lst_ (sa_nil))) (stw_and1 (ct (opd_lt) (pk 12) (e_sub (cB (callv_sumA rfl) (sa_cons (pk 14) (sa_nil)) b_sum) (cB (callv_max rfl) (sa_cons (pk 14) (sa_nil)) b_max)))))).st) (sss_one (ss_ret (se_bl))) (sss_nil))))))))
    (sss_cons (set_ 15 nd (se_int))
    (sss_cons (ss_for (passes_of rfl) rfl (si_rng1 rfl b_range (pk 4)) (nm 10 nd) (sss_one (set_ 15 nd (se_fr (e_mul (pk 15) (cB callv_len (sa_cons (pk 2) (sa_nil)) b_len))))))
    (sss_cons (ss_if ((stw_and (ct (opd_le) (pk 15) (se_int)) (stw_and1 (ctk opv_isnot ((by exact call_ f_holds hr (sa_cons (pk 2) (sa_cons (cT callv_tup (sa_cons (pk 11) (sa_nil)) b_tuple) (sa_cons (se_str) (sa_nil)))))) (se_bl)))).st) (sss_one (ss_ret (se_bl))) (sss_nil))
    (sss_cons (ss_for (passes_of rfl) rfl (si_val (lst_ (sa_cons (tup_ (sa_cons (se_non) (sa_cons (tk 3) (sa_nil)))) (sa_cons (tup_ (sa_cons (tk 2) (sa_cons (se_non) (sa_nil)))) (sa_cons (tup_ (sa_cons (tk 2) (sa_cons (se_fr (e_add (pk 3) (tup_ (sa_cons (se_int) (sa_nil))))) (sa_nil)))) (sa_cons (tup_ (sa_cons (tk 2) (sa_cons (se_fr (se_slH (pk 3) (e_neg (se_int)))) (sa_nil)))) (sa_cons (tup_ (sa_cons (tk 2) (sa_cons (se_fr (cT callv_lst (sa_cons (pk 3) (sa_nil)) b_list)) (sa_nil)))) (sa_cons (tup_ (sa_cons (tk 2) (sa_cons (se_fr (e_add (cT callv_tup (sa_cons (se_lc (own := [("i", 8)]) rfl nd (si_val (tk 3)) (blkOk_by (by rfl)) (fun _ _ _ _ _ => nm 8 nd) (fun _ _ _ _ _ => sts_nil) (fun _ _ _ _ _ => se_int)) (sa_nil)) b_tuple) (tup_ (sa_cons (se_int) (sa_nil))))) (sa_nil)))) (sa_cons (tup_ (sa_cons (tup_ (sa_nil)) (sa_cons (tup_ (sa_nil)) (sa_nil)))) (sa_cons (tup_ (sa_cons (tk 2) (sa_cons (se_fr (e_add (se_slH (pk 3) (e_neg (se_int))) (tup_ (sa_cons (cB callv_len (sa_cons (pk 2) (sa_nil)) b_len) (sa_nil))))) (sa_nil)))) (sa_nil))))))))))) (sg_tup rfl (sgs_cons (nm 16 nd) (sgs_cons (nm 17 nd) (sgs_nil)))) (sss_one (ss_if ((stw_or (st_not (st_tru ((by exact call_ f__law_raises hr (sa_cons (se_int) (sa_cons (pk 16) (sa_cons (pk 17) (sa_nil)))))))) (stw_or1 (st_not (st_tru ((by exact call_ f__law_raises hr (sa_cons (se_int) (sa_cons (pk 16) (sa_cons (pk 17) (sa_nil)))))))))).st) (sss_one (ss_ret (se_bl))) (sss_nil))))
    (sss_one (ss_ret (se_bl))))))))))))))))
end
abbrev LV : Nat := 8
end Q

set_option Elab.async false
set_option linter.all false
set_option maxRecDepth 100000
set_option maxHeartbeats 4000000
set_option exponentiation.threshold 1000
/-! Games drawn and judged, orders, tables. -/
namespace Q
open PySem PySem.Spec PyProof.Rows L2
def rowsD (rows : List (List Int)) : List PyData := rows.map fun r => .tuple (r.map .int)
theorem whole_eq {v : PyData} (h : noDict v = true) : outR (d_is_whole (startE 1 [.fz v])) = .ret (.fz (.bool (isWh v))) := by
  cases v <;> first | rfl | (unfold noDict at h; cases h)
theorem yq_whole {v : PyData} {f : Ev → Res} {env : Ev} (hd : noDict v = true) (h : YQ f env (.own (.fz v))) : YQ (dCall 1 d_is_whole [f]) env (.own (.fz (.bool (isWh v)))) :=
  yq_call (y1 h) rfl rfl (whole_eq hd) (fun z => by cases z)
theorem item_eq {d : PyData} (hd : noDict d = true) {i : Nat} {lo hi : Int} {p2 : Int → Int → Bool} {g h : Ev → Res} {env : Ev} (hg : YQ g env (.own (.fz (.int lo)))) (hh : YQ h env (.own (.fz (.int hi)))) (e : env[i]? = some (some (.fz d))) :
    YQ (dAndV (dCall 1 d_is_whole [dPk i]) (dChain (fun i j => decide (i ≤ j)) p2 g (dPk i) h)) env (.own (.fz (.bool (inP lo hi p2 d)))) := by
  have w := yq_whole hd (yq_pk e)
  cases d with
  | int k => simpa [isWh, inP] using yq_and w fun _ => yq_chain (p2 := p2) hg (yq_pk e) fun _ => hh
  | none => exact yq_and (b := false) w fun z => by cases z
  | bool _ => exact yq_and (b := false) w fun z => by cases z
  | str _ => exact yq_and (b := false) w fun z => by cases z
  | list _ => exact yq_and (b := false) w fun z => by cases z
  | tuple _ => exact yq_and (b := false) w fun z => by cases z
  | dict _ => unfold noDict at hd; cases hd
def isWishes (s : Int) : PyData → Bool
  | .tuple ds => decide ((ds.length : Int) = s) && ds.all (inR 1 1000)
  | _ => false
theorem wishes_eq {v : PyData} (hv : noDict v = true) (s : Int) : outR (d_is_wishes (startE 3 [.fz v, .fz (.int s)])) = .ret (.fz (.bool (isWishes s v))) := by
  cases v with
  | tuple ds =>
    have hds := noDicts_mem (by unfold noDict at hv; exact hv)
    have e0 : startE 3 [.fz (.tuple ds), .fz (.int s)] = [some (.fz (.tuple ds)), some (.fz (.int s)), none] := rfl
    rw [e0]
    unfold d_is_wishes
    rw [og (yq_orT (yq_not (yq_tru (c := true) (yq_isi (yq_pk (d := .tuple ds) rfl) rfl) rfl)) fun _ => yq_nei (yq_len (n := ds.length) (yq_pk (d := .tuple ds) rfl) rfl) (yq_pk (d := .int s) rfl))]
    by_cases hl : (ds.length : Int) = s
    · rw [if_neg (by simp [hl])]
      exact oretb (yq_all [some (.fz (.tuple ds)), some (.fz (.int s)), none] (inR 1 1000) (yq_it (m := .fz (.tuple ds)) (yq_tk rfl) rfl rfl) fun d hd => ⟨[some (.fz (.tuple ds)), some (.fz (.int s)), some (.fz d)], rfl, by
        rw [← inP_R]
        exact item_eq (hds d hd) yq_lit yq_lit rfl, rfl⟩) (by simp [isWishes, hl])
    · simp [isWishes, hl]
  | none => rfl
  | bool _ => rfl
  | int _ => rfl
  | str _ => rfl
  | list _ => rfl
  | dict _ => unfold noDict at hv; cases hv
def isGame : PyData → Bool
  | .tuple (.tuple c0 :: rs) => decide ((rs.length : Int) + 1 ≤ 6) && (decide ((1 : Int) ≤ c0.length) && decide ((c0.length : Int) ≤ 10) && (.tuple c0 :: rs : List PyData).all (isWishes c0.length))
  | _ => false
theorem game_eq {v : PyData} (hv : noDict v = true) : outR (d_is_game (startE 2 [.fz v])) = .ret (.fz (.bool (isGame v))) := by
  cases v with
  | tuple rows =>
    have hds := noDicts_mem (by unfold noDict at hv; exact hv)
    cases rows with
    | nil => rfl
    | cons r0 rs =>
      have e0 : startE 2 [.fz (.tuple (r0 :: rs))] = [some (.fz (.tuple (r0 :: rs))), none] := rfl
      rw [e0]
      unfold d_is_game
      have h0 : ∀ {x : Option M}, YQ (dIx (dPk 0) (dLit (.int 0))) [some (.fz (.tuple (r0 :: rs))), x] (.own (.fz r0)) := fun {x} => yq_ix (yq_pk (d := .tuple (r0 :: rs)) rfl) yq_lit (by
        simp only [ixV, atI, ixN]
        rw [if_pos (by decide), if_pos (by simp)]; rfl)
      have t := yq_orT (yq_not (yq_tru (c := true) (yq_isi (t := .tuple) (yq_pk (i := 0) (d := .tuple (r0 :: rs)) (env := [some (.fz (.tuple (r0 :: rs))), none]) rfl) rfl) rfl)) fun _ =>
        yq_orT (yq_not (yq_chain (p1 := fun i j => decide (i ≤ j)) (p2 := fun i j => decide (i ≤ j)) (f := dLit (.int 1)) (i := 1) (h := dLit c_MOST_PEOPLE) (k := 6) yq_lit (yq_len (n := (r0 :: rs).length) (yq_pk (i := 0) (d := .tuple (r0 :: rs)) rfl) rfl) fun _ => yq_lit)) fun _ => yq_not (yq_tru (yq_isi (t := .tuple) h0 (isi_tup (hds r0 List.mem_cons_self))) rfl)
      rw [og t]
      cases r0 with
      | tuple c0 =>
        by_cases hl : (rs.length : Int) + 1 ≤ 6
        · rw [if_neg (by simp [isTup, hl]; omega)]
          exact oretb (yq_and (yq_chain (p1 := fun i j => decide (i ≤ j)) (p2 := fun i j => decide (i ≤ j)) yq_lit (yq_len h0 rfl) fun _ => yq_lit) fun _ => yq_all [some (.fz (.tuple (.tuple c0 :: rs))), none] (isWishes c0.length) (yq_it (m := .fz (.tuple (.tuple c0 :: rs))) (yq_tk rfl) rfl rfl) fun d hd => ⟨[some (.fz (.tuple (.tuple c0 :: rs))), some (.fz d)], rfl, yq_call2 (yq_pk rfl) (yq_len h0 rfl) (wishes_eq (hds d hd) _), rfl⟩) (by simp [isGame, hl])
        · rw [if_pos (by simp [isTup, hl])]
          simp [isGame, hl]
      | none => simp [isGame, isTup]
      | bool _ => simp [isGame, isTup]
      | int _ => simp [isGame, isTup]
      | str _ => simp [isGame, isTup]
      | list _ => simp [isGame, isTup]
      | dict _ => simp [isGame, isTup]
  | none => rfl
  | bool _ => rfl
  | int _ => rfl
  | str _ => rfl
  | list _ => rfl
  | dict _ => unfold noDict at hv; cases hv
theorem check_eq {v : PyData} (hv : noDict v = true) : outR (d_check_game (startE 1 [.fz v])) = if isGame v = true then .ret (.fz .none) else .exn mal := by
  have e0 : startE 1 [.fz v] = [some (.fz v)] := rfl
  rw [e0]
  unfold d_check_game
  rw [oif (yq_not (yq_tru (yq_call1 (yq_pk rfl) (game_eq hv)) rfl))]
  cases isGame v <;> rfl
def GoodRow (m : Nat) (r : List Int) : Prop := r.length = m ∧ ∀ x ∈ r, 1 ≤ x ∧ x ≤ 1000
def GoodG (m : Nat) (rows : List (List Int)) : Prop := 1 ≤ rows.length ∧ rows.length ≤ 6 ∧ 1 ≤ m ∧ m ≤ 10 ∧ ∀ r ∈ rows, GoodRow m r
theorem row_dv {top : Int} {n m : Nat} {x6 x8 : Option M} (h1 : 1 ≤ top) (h2 : top ≤ 1000) (hm : m ≤ 8) :
    DV (dG (kTupOf) [dLc (gNm 7) (dG kRng [dPk 5]) (dLit (.bool true)) (dG kAdd [dLit (.int 1), dCallI 3 d__law_take [.io 0, .v (dTk 3)]]) [7]])
      (fun D => [some D.m, some (.fz (.int 5)), some (.fz (.int 8)), some (.fz (.int top)), some (.fz (.int n)), some (.fz (.int m)), x6, none, x8])
      fun x => ∃ mm, x = .own mm ∧ ∃ r : List Int, mm = .fz (.tuple (r.map .int)) ∧ GoodRow m r := by
  have lc := dv_lc (p := gNm 7) (src := dG kRng [dPk 5]) (vs := [7]) (f := dG kAdd [dLit (.int 1), dCallI 3 takeDen [.io 0, .v (dTk 3)]]) (ds := rngD 0 m)
    (e := fun D => [some D.m, some (.fz (.int 5)), some (.fz (.int 8)), some (.fz (.int top)), some (.fz (.int n)), some (.fz (.int m)), x6, none, x8])
    (fun D => [some D.m, some (.fz (.int 5)), some (.fz (.int 8)), some (.fz (.int top)), some (.fz (.int n)), some (.fz (.int m)), x6, none, x8])
    (fun d D => [some D.m, some (.fz (.int 5)), some (.fz (.int 8)), some (.fz (.int top)), some (.fz (.int n)), some (.fz (.int m)), x6, some (.fz d), x8])
    (fun _ mm => ∃ i : Int, mm = .fz (.int i) ∧ 1 ≤ i ∧ i ≤ 1000)
    (dv_q fun D _ => yq_rng (n := m) (yq_pk rfl) (by omega) (by unfold SZ; omega))
    (fun d _ => ⟨fun _ => rfl, dv_add1 (dv_tk (s := 0) (fun _ => rfl) (fun _ _ => rfl) (dv_q fun _ _ => yq_tk rfl) h1 (lg_small (by omega) (by omega))) (fun i hi => ⟨by omega, by omega⟩), fun _ => rfl⟩)
  refine dv_tupOf lc fun ms a => ?_
  obtain ⟨as, h3, h4, h5⟩ := all2_F (F := fun i : Int => .fz (.int i)) a
  subst h3
  have := seqv_lst (as.map .int)
  rw [List.map_map] at this
  exact ⟨_, this, as, rfl, by rw [h4, rngD_len], h5⟩
abbrev gE (top : Int) (n m : PyData) (x6 x8 : Option M) (D : Dr) : Ev := [some D.m, some (.fz (.int 5)), some (.fz (.int 8)), some (.fz (.int top)), some (.fz n), some (.fz m), x6, none, x8]
theorem game_den {T : Int} (T1 : 1 ≤ T) (T2 : T ≤ 1000) {D : Dr} (ok : Dr.Ok D) : RO 0 d__law_game (startE 9 [D.m, .fz (.int 5), .fz (.int 8), .fz (.int T)]) fun mm => ∃ m rows, GoodG m rows ∧ mm = .fz (.tuple (rowsD rows)) := by
  show RO 0 d__law_game ((fun D : Dr => ([some D.m, some (.fz (.int 5)), some (.fz (.int 8)), some (.fz (.int T)), none, none, none, none, none] : Ev)) D) _
  unfold d__law_game
  have tk : ∀ {e : Dr → Ev} {g : Ev → Res} {t : Int}, (∀ D, (e D)[0]? = some (some D.m)) → (∀ D D2, (e D).set 0 (some D2.m) = e D2) → DV g e (Is (.int t)) → 1 ≤ t → t ≤ 1000 → DV (dCallI 3 d__law_take [.io 0, .v g]) e (IsI fun i => 0 ≤ i ∧ i < t) := fun a b c d h => dv_tk a b c d (lg_small (by omega) (by omega))
  refine do_asg (e := fun D => [some D.m, some (.fz (.int 5)), some (.fz (.int 8)), some (.fz (.int T)), none, none, none, none, none]) (P := fun d => ∃ n m : Nat, d = .tuple [.int n, .int m] ∧ 1 ≤ n ∧ n ≤ 5 ∧ 1 ≤ m ∧ m ≤ 8) (e2 := fun d D => match d with
    | .tuple [a, b] => gE T a b none none D
    | _ => []) ok (dv_F (dvs_cons (dv_frI <| dv_add1 (P' := fun i => 1 ≤ i ∧ i ≤ 5) (tk (t := 5) (fun _ => rfl) (fun _ _ => rfl) (dv_q fun _ _ => yq_tk rfl) (by decide) (by decide)) (fun i hi => ⟨by omega, by omega⟩))
      (dvs_cons (dv_frI <| dv_add1 (P' := fun i => 1 ≤ i ∧ i ≤ 8) (tk (t := 8) (fun _ => rfl) (fun _ _ => rfl) (dv_q fun _ _ => yq_tk rfl) (by decide) (by decide)) (fun i hi => ⟨by omega, by omega⟩)) dvs_nil)) fun ms h => ?_) ?_ ?_
  · obtain ⟨m1, r1, e1, ⟨i, e2, hi⟩, m2, r2, e3, ⟨j, e4, hj⟩, e5⟩ := h
    subst e1 e2 e3 e4 e5
    refine ⟨_, rfl, _, _, rfl, rfl, i.toNat, j.toNat, ?_, by omega, by omega, by omega, by omega⟩
    rw [show ((i.toNat : Nat) : Int) = i by omega, show ((j.toNat : Nat) : Int) = j by omega]
  · rintro d D ⟨n, m, rfl, _⟩
    rfl
  rintro d D2 ok2 ⟨n, m, rfl, n1, n2, m1, m2⟩
  refine do_set (e := fun D => gE T (.int n) (.int m) none none D) (P := fun mm => ∃ t : Int, mm = .fz (.int t) ∧ 1 ≤ t ∧ t ≤ 1000) ok2 (dv_fr (dv_F (dvs_cons (P := (· = .lst [.fz (.int 1), .fz (.int 2), .fz (.int 3), .fz (.int T)])) ((dv_q fun _ _ => yq_Fn (ys_cons yq_lit (ys_cons yq_lit (ys_cons yq_lit (ys_cons (yq_tk rfl) ys_nil)))) rfl).imp fun x hx => ⟨_, hx, rfl⟩)
    (dvs_cons (tk (fun _ => rfl) (fun _ _ => rfl) (dv_q fun _ _ => yq_lit) (by decide) (by decide)) dvs_nil)) fun ms h => ?_) |>.imp fun x h => h) (fun _ => by show 3 < 9; decide) ?_
  · obtain ⟨m1, r1, e1, e2, m2, r2, e3, ⟨j, e4, hj⟩, e5⟩ := h
    subst e1 e2 e3 e4 e5
    have : j = 0 ∨ j = 1 ∨ j = 2 ∨ j = 3 := by omega
    rcases this with rfl | rfl | rfl | rfl
    · exact ⟨_, rfl, _, _, rfl, rfl, _, rfl, 1, rfl, by decide, by decide⟩
    · exact ⟨_, rfl, _, _, rfl, rfl, _, rfl, 2, rfl, by decide, by decide⟩
    · exact ⟨_, rfl, _, _, rfl, rfl, _, rfl, 3, rfl, by decide, by decide⟩
    · exact ⟨_, rfl, _, _, rfl, rfl, _, rfl, T, rfl, T1, T2⟩
  rintro _ D3 ok3 ⟨t, rfl, t1, t2⟩
  show RO 0 _ (gE t (.int n) (.int m) none none D3) _
  have hn : (n : Int) ≤ SZ := by unfold SZ; omega
  have fin : ∀ ms : List M, All2 (fun _ mm => ∃ r : List Int, mm = .fz (.tuple (r.map .int)) ∧ GoodRow m r) (rngD 0 n) ms → ∃ ds, seqv (.own (.lst ms)) = some ds ∧ ∃ m rows, GoodG m rows ∧ (.fz (.tuple ds) : M) = .fz (.tuple (rowsD rows)) := fun ms a => by
    obtain ⟨rs, h3, h4, h5⟩ := all2_F (F := fun r : List Int => .fz (.tuple (r.map .int))) a
    subst h3
    rw [rngD_len] at h4
    have := seqv_lst (rowsD rs)
    unfold rowsD at this
    rw [List.map_map] at this
    exact ⟨_, this, m, rs, ⟨by omega, by omega, m1, by omega, h5⟩, rfl⟩
  refine do_if (e := fun D => gE t (.int n) (.int m) none none D) (P := fun _ => True) ok3 (dv_eq0 (tk (fun _ => rfl) (fun _ _ => rfl) (dv_q fun _ _ => yq_lit) (by decide) (by decide))) (fun D4 ok4 _ => ?_) fun D4 ok4 _ => ?_
  · refine do_set (e := fun D => gE t (.int n) (.int m) none none D) ok4 (row_dv t1 t2 m2) (fun _ => by show 6 < 9; decide) ?_
    rintro _ D5 D6 ⟨r, rfl, hr⟩
    exact do_ret (e := fun D => gE t (.int n) (.int m) (some (.fz (.tuple (r.map .int)))) none D) D6 (dv_tupOf (dv_lc (p := gNm 8) (vs := [8]) (ds := rngD 0 n) (fun D => gE t (.int n) (.int m) (some (.fz (.tuple (r.map .int)))) none D) (fun d D => gE t (.int n) (.int m) (some (.fz (.tuple (r.map .int)))) (some (.fz d)) D)
      (fun _ mm => ∃ r : List Int, mm = .fz (.tuple (r.map .int)) ∧ GoodRow m r) (dv_q fun D _ => yq_rng (n := n) (yq_pk rfl) (by omega) hn) (fun d _ => ⟨fun _ => rfl, dv_own (fun _ _ => yq_tk rfl) ⟨r, rfl, hr⟩, fun _ => rfl⟩)) fin) fun _ => rfl
  · exact do_ret (e := fun D => gE t (.int n) (.int m) none none D) ok4 (dv_tupOf (dv_lc (p := gNm 8) (vs := [8]) (ds := rngD 0 n) (fun D => gE t (.int n) (.int m) none none D) (fun d D => gE t (.int n) (.int m) none (some (.fz d)) D)
      (fun _ mm => ∃ r : List Int, mm = .fz (.tuple (r.map .int)) ∧ GoodRow m r) (dv_q fun D _ => yq_rng (n := n) (yq_pk rfl) (by omega) hn) (fun d _ => ⟨fun _ => rfl, row_dv t1 t2 m2, fun _ => rfl⟩)) fin) fun _ => rfl
theorem atI_get {α : Type} {xs : List α} {i : Int} (h0 : 0 ≤ i) (h : i < xs.length) : ∃ x, x ∈ xs ∧ atI xs i = some x := by
  have hj : i.toNat < xs.length := by omega
  refine ⟨xs[i.toNat], List.getElem_mem hj, ?_⟩
  simp only [atI, ixN]
  rw [if_pos h0, if_pos h]
  simp [hj]
theorem good_nd {m : Nat} {rows : List (List Int)} (h : GoodG m rows) : noDict (.tuple (rowsD rows)) = true := noDict_tup fun d hd => by
  obtain ⟨r, _, rfl⟩ := List.mem_map.mp hd
  exact noDict_tup fun x hx => by
    obtain ⟨i, _, rfl⟩ := List.mem_map.mp hx
    rfl
theorem good_game {m : Nat} {rows : List (List Int)} (h : GoodG m rows) : isGame (.tuple (rowsD rows)) = true := by
  obtain ⟨g1, g2, g3, g4, g5⟩ := h
  cases rows with
  | nil => simp at g1
  | cons r0 rs =>
    have hr0 := (g5 r0 List.mem_cons_self).1
    show (decide (((rowsD rs).length : Int) + 1 ≤ 6) && (decide ((1 : Int) ≤ (r0.map PyData.int).length) && decide (((r0.map PyData.int).length : Int) ≤ 10) && (rowsD (r0 :: rs)).all (isWishes (r0.map PyData.int).length))) = true
    have e : (rowsD (r0 :: rs)).all (isWishes (r0.map PyData.int).length) = true := by
      rw [List.all_eq_true]
      intro d hd
      obtain ⟨r, hr, rfl⟩ := List.mem_map.mp hd
      obtain ⟨h1, h2⟩ := g5 r hr
      show (decide (((r.map PyData.int).length : Int) = (r0.map PyData.int).length) && (r.map PyData.int).all (inR 1 1000)) = true
      rw [Bool.and_eq_true]
      constructor
      · simp [h1, hr0]
      · rw [List.all_eq_true]
        intro x hx
        obtain ⟨i, hi, rfl⟩ := List.mem_map.mp hx
        have := h2 i hi
        simp [inR, this]
    rw [e]
    simp [rowsD] at g2 ⊢
    omega
theorem gD_rows (rn : List (List Nat)) : gD rn = .tuple (rowsD (rn.map up)) := by
  unfold gD rowsD
  rw [List.map_map]
  congr 1
  apply List.map_congr_left
  intro r _
  show PyData.tuple (natsD r) = .tuple ((up r).map .int)
  rw [natsD_ints]; rfl
theorem good_up {m : Nat} {rows : List (List Int)} (h : GoodG m rows) : ∃ rn, rows = rn.map up ∧ GoodR rn m := by
  obtain ⟨g1, g2, g3, g4, g5⟩ := h
  have e : (rows.map fun r => r.map Int.toNat).map up = rows := by
    rw [List.map_map]
    refine (List.map_congr_left fun r hr => ?_).trans (List.map_id rows)
    exact down fun x hx => by have := (g5 r hr).2 x hx; omega
  refine ⟨rows.map fun r => r.map Int.toNat, e.symm, ?_, ?_, g3, g4, ?_, ?_⟩
  · rw [List.length_map]; exact g1
  · rw [List.length_map]; exact g2
  · intro r hr
    obtain ⟨r0, h0, rfl⟩ := List.mem_map.mp hr
    rw [List.length_map]; exact (g5 r0 h0).1
  · intro r hr x hx
    obtain ⟨r0, h0, rfl⟩ := List.mem_map.mp hr
    obtain ⟨y, hy, rfl⟩ := List.mem_map.mp hx
    have := (g5 r0 h0).2 y hy
    omega
theorem up_good {m : Nat} {rn : List (List Nat)} (h : GoodR rn m) : GoodG m (rn.map up) := by
  refine ⟨by rw [List.length_map]; exact h.n1, by rw [List.length_map]; exact h.n6, h.m1, h.m9, fun r hr => ?_⟩
  obtain ⟨r0, h0, rfl⟩ := List.mem_map.mp hr
  refine ⟨by unfold up; rw [List.length_map]; exact h.len r0 h0, fun x hx => ?_⟩
  obtain ⟨y, hy, rfl⟩ := List.mem_map.mp hx
  have := h.rng r0 h0 y hy
  omega
theorem gD_nd {m : Nat} {rn : List (List Nat)} (hg : GoodR rn m) : noDict (gD rn) = true := by rw [gD_rows]; exact good_nd (up_good hg)
theorem gD_game {m : Nat} {rn : List (List Nat)} (hg : GoodR rn m) : isGame (gD rn) = true := by rw [gD_rows]; exact good_game (up_good hg)
theorem game_denN {T : Int} (T1 : 1 ≤ T) (T2 : T ≤ 1000) {D : Dr} (ok : Dr.Ok D) : RO 0 d__law_game (startE 9 [D.m, .fz (.int 5), .fz (.int 8), .fz (.int T)]) fun mm => ∃ m rn, GoodR rn m ∧ mm = .fz (gD rn) := (game_den T1 T2 ok).imp fun mm ⟨m, rows, h, e⟩ => by
  obtain ⟨rn, e2, h2⟩ := good_up h
  exact ⟨m, rn, h2, by rw [e, e2, gD_rows]⟩
theorem yq_wv {rn : List (List Nat)} {m i g : Nat} {f fi fg : Ev → Res} {env : Ev} (gr : GoodR rn m) (h : YQ f env (.own (.fz (gD rn)))) (h1 : YQ fi env (.own (.fz (.int (i : Nat))))) (h2 : YQ fg env (.own (.fz (.int (g : Nat))))) (hi : i < rn.length) (hg : g < m) : YQ (dIx (dIx f fi) fg) env (.own (.fz (.int (wv rn i g : Nat)))) := by
  have hl : (rn.getD i []).length = m := by
    have : rn.getD i [] = rn[i] := by simp [hi]
    rw [this]
    exact gr.len _ (List.getElem_mem hi)
  exact yq_ix (yq_ix h h1 (ix_gD hi)) h2 (ix_tupN (by omega))
section
variable {rn : List (List Nat)} {m : Nat}
theorem row_len (gr : GoodR rn m) {i : Nat} (hi : i < rn.length) : (rn.getD i []).length = m := by
  have : rn.getD i [] = rn[i] := by simp [hi]
  rw [this]
  exact gr.len _ (List.getElem_mem hi)
end
def fits (c n : Int) : PyData → Bool
  | .tuple os => decide ((os.length : Int) = c) && os.all (inP 0 n fun i j => decide (i < j))
  | _ => false
theorem fits_eq {c0 rs : List PyData} {v : PyData} (hv : noDict v = true) : outR (d_fits_owners (startE 3 [.fz (.tuple (.tuple c0 :: rs)), .fz v])) = .ret (.fz (.bool (fits c0.length (rs.length + 1) v))) := by
  have e0 : startE 3 [.fz (.tuple (.tuple c0 :: rs)), .fz v] = [some (.fz (.tuple (.tuple c0 :: rs))), some (.fz v), none] := rfl
  rw [e0]
  unfold d_fits_owners
  have h0 : ∀ {x y : Option M}, YQ (dIx (dPk 0) (dLit (.int 0))) [some (.fz (.tuple (.tuple c0 :: rs))), x, y] (.own (.fz (.tuple c0))) := fun {x y} => yq_ix (yq_pk (d := .tuple (.tuple c0 :: rs)) rfl) yq_lit (by
    simp only [ixV, atI, ixN]
    rw [if_pos (by decide), if_pos (by simp)]; rfl)
  cases v with
  | tuple os =>
    have hds := noDicts_mem (by unfold noDict at hv; exact hv)
    rw [og (yq_orT (yq_not (yq_tru (c := true) (yq_isi (yq_pk (d := .tuple os) rfl) rfl) rfl)) fun _ => yq_nei (yq_len (n := os.length) (yq_pk (d := .tuple os) rfl) rfl) (yq_len (n := c0.length) h0 rfl))]
    by_cases hl : (os.length : Int) = c0.length
    · rw [if_neg (by simp [hl])]
      exact oretb (yq_all [some (.fz (.tuple (.tuple c0 :: rs))), some (.fz (.tuple os)), none] (inP 0 (rs.length + 1) fun i j => decide (i < j)) (yq_it (m := .fz (.tuple os)) (yq_tk rfl) rfl rfl) fun d hd => ⟨[some (.fz (.tuple (.tuple c0 :: rs))), some (.fz (.tuple os)), some (.fz d)], rfl, item_eq (hds d hd) yq_lit (yq_len (yq_pk rfl) rfl) rfl, rfl⟩) (by simp [fits, hl])
    · rw [if_pos (by simp [hl])]
      simp [fits, hl]
  | none => rfl
  | bool _ => rfl
  | int _ => rfl
  | str _ => rfl
  | list _ => rfl
  | dict _ => unfold noDict at hv; cases hv
theorem cshare_x {g v : PyData} (hg : noDict g = true) (h : isGame g = false) : outR (d_check_share (startE 2 [.fz g, .fz v])) = .exn mal := by
  have e0 : startE 2 [.fz g, .fz v] = [some (.fz g), some (.fz v)] := rfl
  rw [e0]
  unfold d_check_share
  exact oexx (xcall (y1 (yq_pk rfl)) rfl (by rw [check_eq hg, h]; rfl))
theorem cshare_eq {c0 rs : List PyData} {v : PyData} (hg : noDict (.tuple (.tuple c0 :: rs)) = true) (hv : noDict v = true) (h : isGame (.tuple (.tuple c0 :: rs)) = true) : outR (d_check_share (startE 2 [.fz (.tuple (.tuple c0 :: rs)), .fz v])) = if fits c0.length (rs.length + 1) v = true then .ret (.fz .none) else .exn mal := by
  have e0 : startE 2 [.fz (.tuple (.tuple c0 :: rs)), .fz v] = [some (.fz (.tuple (.tuple c0 :: rs))), some (.fz v)] := rfl
  rw [e0]
  unfold d_check_share
  rw [oex (yq_call1 (yq_pk rfl) (by rw [check_eq hg, if_pos h]))]
  rw [oif (yq_not (yq_tru (yq_call2 (yq_pk rfl) (yq_pk rfl) (fits_eq hv)) rfl))]
  cases fits c0.length (rs.length + 1) v <;> rfl
section
variable {rn : List (List Nat)} {m : Nat}
theorem cs_good (gr : GoodR rn m) {v : PyData} (hv : noDict v = true) : outR (d_check_share (startE 2 [.fz (gD rn), .fz v])) = if fits m rn.length v = true then .ret (.fz .none) else .exn mal := by
  have nd := gD_nd gr
  have ig := gD_game gr
  cases rn with
  | nil => have := gr.n1; simp at this
  | cons r0 rs =>
    have hr0 := gr.len r0 List.mem_cons_self
    have b := cshare_eq (c0 := natsD r0) (rs := rs.map fun r => .tuple (natsD r)) nd hv ig
    have e1 : ((natsD r0).length : Int) = m := by rw [natsD_len, hr0]
    have e2 : ((rs.map fun r => PyData.tuple (natsD r)).length : Int) + 1 = ((r0 :: rs).length : Nat) := by simp
    rw [e1, e2] at b
    exact b
theorem fits_nats {os : List Nat} {n t : Nat} (go : GoodO n t os) : fits t n (.tuple (natsD os)) = true := by
  show (decide (((natsD os).length : Int) = t) && (natsD os).all (inP 0 n fun i j => decide (i < j))) = true
  rw [Bool.and_eq_true]
  constructor
  · rw [natsD_len, go.len]; simp
  · rw [List.all_eq_true]
    intro x hx
    obtain ⟨i, hi, rfl⟩ := List.mem_map.mp hx
    have := go.lt i hi
    simp [inP, this]
end
/-! ### orders -/
section
variable {rn : List (List Nat)} {ord : List Nat} {m t : Nat}
theorem ord_a {v : PyData} (hv : noDict v = true) (h : isTup v = false) {n : Nat} : outR (d_is_order (startE 3 [.fz v, .fz (.int (n : Nat))])) = .ret (.fz (.bool false)) := by
  have e0 : startE 3 [.fz v, .fz (.int (n : Nat))] = [some (.fz v), nM n, none] := rfl
  rw [e0]
  unfold d_is_order
  rw [og (yq_orT (b := false) (yq_not (yq_tru (yq_isi (yq_pk (i := 0) (d := v) rfl) (isi_tup hv)) rfl)) fun z => by rw [h] at z; cases z)]
  rw [h]
  rfl
theorem ord_t {ds : List PyData} (hv : noDict (.tuple ds) = true) {n : Nat} {c : Bool} (hc : ds.length = n → ds.all isWh = true → YQ (dG (kPl oEq) [dG (kSortA) [dPk 0], dG kLRng [dPk 1]]) [some (.fz (.tuple ds)), nM n, none] (.own (.fz (.bool c)))) : outR (d_is_order (startE 3 [.fz (.tuple ds), .fz (.int (n : Nat))])) = .ret (.fz (.bool (decide (ds.length = n) && (ds.all isWh && c)))) := by
  have hds := noDict_in hv
  have e0 : startE 3 [.fz (.tuple ds), .fz (.int (n : Nat))] = [some (.fz (.tuple ds)), nM n, none] := rfl
  rw [e0]
  unfold d_is_order
  have al := yq_all (p := gNm 2) (src := dIt (dTk 0)) (f := dCall 1 d_is_whole [dPk 2]) (vs := [2]) (env := [some (.fz (.tuple ds)), nM n, none]) [some (.fz (.tuple ds)), nM n, none] isWh (yq_it (m := .fz (.tuple ds)) (yq_tk (i := 0) rfl) rfl rfl) (fun d hd => ⟨[some (.fz (.tuple ds)), nM n, some (.fz d)], rfl, yq_whole (hds d hd) (yq_pk (i := 2) rfl), rfl⟩) rfl rfl rfl
  have t := yq_orT (yq_not (yq_tru (c := true) (yq_isi (t := .tuple) (yq_pk (i := 0) (d := .tuple ds) (env := [some (.fz (.tuple ds)), nM n, none]) rfl) rfl) rfl)) fun _ => yq_orT (yq_neN (yq_len (n := ds.length) (yq_pk (i := 0) (d := .tuple ds) rfl) rfl) (yq_pk (i := 1) rfl) rfl) fun _ => yq_not (yq_tru al rfl)
  rw [og t]
  by_cases hl : ds.length = n
  · cases ha : ds.all isWh with
    | false => simp [hl, ha]
    | true =>
      have := hc hl ha
      rw [if_neg (by simp [hl, ha])]
      refine Eq.trans (oret this) ?_
      simp [hl]
  · simp [hl]
theorem ord_ints {ns : List Int} {n : Nat} (hn : n ≤ 1000) : outR (d_is_order (startE 3 [.fz (.tuple (ns.map .int)), .fz (.int (n : Nat))])) = .ret (.fz (.bool (decide (ns.length = n) && decide (sortI ns = up (List.range n))))) := by
  have al : (ns.map PyData.int).all isWh = true := by
    rw [List.all_eq_true]
    intro x hx
    obtain ⟨i, _, rfl⟩ := List.mem_map.mp hx
    rfl
  refine Eq.trans (ord_t (c := decide (sortI ns = up (List.range n))) (ints_nd ns) fun _ _ => ?_) ?_
  · refine yq_G (b := false) (ys_cons (yq_G (b := true) (ys_cons (yq_pk (i := 0) rfl) ys_nil) ksortA_T) (ys_cons (yq_G (b := true) (ys_cons (yq_pk (i := 1) rfl) ys_nil) (klrng hn)) ys_nil)) ?_
    have e : valDs [.own (.lst ((sortI ns).map fun n => .fz (.int n))), .own (.lst ((rngD 0 n).map .fz))] = some [.list ((sortI ns).map .int), .list ((up (List.range n)).map .int)] := by
      have e1 : (sortI ns).map (fun n => M.fz (.int n)) = ((sortI ns).map PyData.int).map M.fz := by rw [List.map_map]; rfl
      have e2 : rngD 0 n = (up (List.range n)).map PyData.int := by rw [rngD_ints]; unfold up; rw [List.map_map]; rfl
      rw [e1, e2]
      simp only [valDs, valD, frz_lst, Option.bind_some, Option.map_some]
    have ok : eqOk (.list ((sortI ns).map .int)) (.list ((up (List.range n)).map .int)) = true := eqOk_sh (ints_shL _) (ints_shL _) (by decide)
    simp only [kPl, e, Option.bind_some, oEq, ok, if_true, Option.map_some, eqv_ints]
  · rw [al, List.length_map, Bool.true_and]
theorem ord_yes {ord : List Nat} {n : Nat} (hn : n ≤ 1000) (h : ord.Perm (List.range n)) : outR (d_is_order (startE 3 [.fz (.tuple (natsD ord)), .fz (.int (n : Nat))])) = .ret (.fz (.bool true)) := by
  rw [natsD_ints]
  refine (ord_ints hn).trans ?_
  have e : sortI (up ord) = up (List.range n) := by
    refine srt_uniq leI_anti ((srtB_perm leI _).trans (h.map _)) (srtB_srt leI_tot leI_tr _) ?_
    unfold up
    rw [List.pairwise_map]
    refine List.pairwise_lt_range.imp fun hab => ?_
    unfold leI
    exact decide_eq_true (by omega)
  have l : (ord.map fun x : Nat => (x : Int)).length = n := by rw [List.length_map, h.length_eq, List.length_range]
  show OutR.ret (.fz (.bool (decide ((up ord).length = n) && decide (sortI (up ord) = up (List.range n))))) = _
  rw [e, show (up ord).length = n from l]
  simp
theorem ord_no {ns : List Int} {n : Nat} (hn : n ≤ 1000) (h : ns.length = n → ∃ x ∈ ns, x < 0 ∨ (n : Int) ≤ x) : outR (d_is_order (startE 3 [.fz (.tuple (ns.map .int)), .fz (.int (n : Nat))])) = .ret (.fz (.bool false)) := by
  refine (ord_ints hn).trans ?_
  by_cases hl : ns.length = n
  · obtain ⟨x, hx, hb⟩ := h hl
    have : ¬ sortI ns = up (List.range n) := fun e => by
      have : x ∈ sortI ns := (srtB_perm leI ns).mem_iff.mpr hx
      rw [e] at this
      obtain ⟨y, hy, rfl⟩ := List.mem_map.mp this
      have := List.mem_range.mp hy
      omega
    rw [decide_eq_false this, Bool.and_false]
  · rw [decide_eq_false hl]; rfl
end
/-! ### parts and tables -/
def partOf (os : List Int) (k i : Nat) : List PyData := ((List.range k).filter fun g => os[g]? == some (i : Int)).map fun g => .int (g : Nat)
def partsD (os : List Int) (n : Nat) (k : Nat) : List PyData := (List.range n).map fun i => .tuple (partOf os k i)
theorem partOf_len (os : List Int) (k i : Nat) : (partOf os k i).length ≤ k := by
  unfold partOf
  rw [List.length_map]
  exact Nat.le_trans (List.length_filter_le _ _) (by simp)
theorem partOf_succ (os : List Int) (k i : Nat) : partOf os (k + 1) i = if os[k]? = some (i : Int) then partOf os k i ++ [.int (k : Nat)] else partOf os k i := by
  unfold partOf
  rw [List.range_succ, List.filter_append, List.map_append]
  by_cases h : os[k]? = some (i : Int)
  · simp [h]
  · simp [h]
theorem partsD_set {os : List Int} {n k o : Nat} (ho : o < n) (hk : os[k]? = some (o : Int)) : (partsD os n k).set o (.tuple (partOf os k o ++ [.int (k : Nat)])) = partsD os n (k + 1) := by
  apply List.ext_getElem?
  intro j
  unfold partsD
  by_cases hj : o = j
  · subst hj
    rw [List.getElem?_set_self (by simpa using ho)]
    simp [ho, partOf_succ, hk]
  · rw [List.getElem?_set_ne hj]
    simp only [List.getElem?_map]
    by_cases hlt : j < n
    · simp only [List.getElem?_range hlt, Option.map_some, partOf_succ]
      rw [if_neg]
      intro h
      rw [hk] at h
      have := Option.some.inj h
      omega
    · rw [List.getElem?_eq_none (by simpa using hlt)]; rfl
theorem parts_eq {os : List Int} {n : Nat} (hn : n ≤ 1000) (hl : os.length ≤ 1000) (ho : ∀ o ∈ os, 0 ≤ o ∧ o < n) : outR (d_parts_of (startE 6 [.fz (.int n), .fz (.tuple (os.map .int))])) = .ret (.fz (.list (partsD os n os.length))) := by
  have e0 : startE 6 [.fz (.int n), .fz (.tuple (os.map .int))] = [some (.fz (.int n)), some (.fz (.tuple (os.map .int))), none, none, none, none] := rfl
  rw [e0]
  unfold d_parts_of
  have sz : SZ = 16777216 := rfl
  refine Eq.trans (oset (yq_lc0 [some (.fz (.int n)), some (.fz (.tuple (os.map .int))), none, none, none, none] (fun _ => .fz (.tuple [])) (yq_rng (n := n) (yq_pk rfl) (by omega) (by omega)) fun d hd => ⟨[some (.fz (.int n)), some (.fz (.tuple (os.map .int))), none, none, none, some (.fz d)], rfl, yq_Fn ys_nil rfl, rfl⟩) (by show 2 < 6; decide)) ?_
  have e1 : (rngD 0 (n : Int).toNat).map (fun _ => (.fz (.tuple []) : M)) = (partsD os n 0).map M.fz := by
    rw [rngD_map]
    unfold partsD partOf
    simp
  rw [e1]
  obtain ⟨e2, h1, x, y, rfl, _⟩ := runF_ix (p := gTp [gNm 3, gNm 4]) (b := dAsg (gPut 2 (dPk 4)) (dG kAdd [dIx (dPk 2) (dPk 4), dTup [dTk 3]]))
    (fun k e => ∃ x y, e = [some (.fz (.int n)), some (.fz (.tuple (os.map .int))), some (.lst ((partsD os n k).map M.fz)), x, y, none] ∧ True) (ds := enD (os.map .int)) (k := 0) (env := [some (.fz (.int n)), some (.fz (.tuple (os.map .int))), some (.lst ((partsD os n 0).map M.fz)), none, none, none]) (fun i d hd env => by
      rintro ⟨x, y, rfl, _⟩
      rw [Nat.zero_add]
      obtain ⟨z, hz, rfl⟩ := enD_get hd
      rw [List.getElem?_map] at hz
      obtain ⟨o, hoi, rfl⟩ := Option.map_eq_some_iff.mp hz
      obtain ⟨o1, o2⟩ := ho o (List.mem_of_getElem? hoi)
      obtain ⟨on, rfl⟩ : ∃ on : Nat, o = on := ⟨o.toNat, by omega⟩
      have hon : on < n := by omega
      have hlen : ((partsD os n i).map M.fz).length = n := by simp [partsD]
      have hix : ixN ((partsD os n i).map M.fz).length (on : Int) = some on := by
        unfold ixN
        rw [if_pos (by omega), hlen, if_pos (by omega)]
        simp
      have hat : ixV (.vw (.lst ((partsD os n i).map M.fz))) (on : Int) = some (.own (.fz (.tuple (partOf os i on)))) := by
        simp only [ixV, atI, hix, Option.bind_some, List.getElem?_map]
        simp [partsD, hon, mkVw]
      have hi : i < os.length := (List.getElem?_eq_some_iff.mp hoi).1
      refine ⟨[some (.fz (.int n)), some (.fz (.tuple (os.map .int))), some (.lst ((partsD os n i).map M.fz)), some (.fz (.int (i : Nat))), some (.fz (.int (on : Nat))), none], _, rfl, .inl (out_put (s := 2) (ms := (partsD os n i).map M.fz) (j := on) (d := .tuple (partOf os i on ++ [.int (i : Nat)])) (yq_addT (yq_ix (yq_vw (i := 2) rfl) (yq_pk (i := 4) rfl) hat) (yq_Fn (y := .own (.fz (.tuple [.int (i : Nat)]))) (y1 (yq_tk (i := 3) (d := .int (i : Nat)) rfl)) rfl) (by have := partOf_len os i on; simp; omega)) (yq_pk (i := 4) rfl) rfl hix), some (.fz (.int (i : Nat))), some (.fz (.int (on : Nat))), ?_, trivial⟩
      rw [← partsD_set hon hoi]
      simp [List.map_set])
    ⟨none, none, rfl, trivial⟩
  show outR (dSeq (dFor _ _ _) _ [some (.fz (.int n)), some (.fz (.tuple (os.map .int))), some (.lst ((partsD os n 0).map M.fz)), none, none, none]) = _
  rw [out_seq ((out_for (yq_en (m := .fz (.tuple (os.map .int))) (yq_tk rfl) rfl rfl)).trans h1)]
  rw [enD_len, List.length_map, Nat.zero_add]
  have t : dTk 2 [some (.fz (.int n)), some (.fz (.tuple (os.map .int))), some (.lst ((partsD os n os.length).map M.fz)), x, y, none] = .ok (.own (.fz (.list (partsD os n os.length)))) [some (.fz (.int n)), some (.fz (.tuple (os.map .int))), some (.fz (.list (partsD os n os.length))), x, y, none] .q := by
    unfold dTk
    simp [frz_lst]
  unfold dRet
  rw [t]
  rfl
def atD (r : List Int) : PyData → Int
  | .int g => r.getD g.toNat 0
  | _ => 0
def worthOf (r : List Int) (gs : List PyData) : Int := (gs.map (atD r)).sum
theorem worth_eq {r : List Int} {gs : List PyData} (hg : ∀ d ∈ gs, ∃ g : Nat, d = .int g ∧ g < r.length) : outR (d_worth (startE 3 [.fz (.tuple (r.map .int)), .fz (.tuple gs)])) = .ret (.fz (.int (worthOf r gs))) := by
  have e0 : startE 3 [.fz (.tuple (r.map .int)), .fz (.tuple gs)] = [some (.fz (.tuple (r.map .int))), some (.fz (.tuple gs)), none] := rfl
  rw [e0]
  unfold d_worth
  refine oret (yq_sumA (ns := gs.map (atD r)) (yq_lc0 [some (.fz (.tuple (r.map .int))), some (.fz (.tuple gs)), none] (fun d => .fz (.int (atD r d))) (yq_it (m := .fz (.tuple gs)) (yq_tk rfl) rfl rfl) fun d hd => ?_) (.inl ?_))
  · obtain ⟨g, rfl, hl⟩ := hg d hd
    exact ⟨[some (.fz (.tuple (r.map .int))), some (.fz (.tuple gs)), some (.fz (.int g))], rfl, yq_ix (yq_pk rfl) (yq_pk rfl) (ix_int hl), rfl⟩
  · have e : gs.map (fun d => (.fz (.int (atD r d)) : M)) = ((gs.map (atD r)).map PyData.int).map M.fz := by simp
    show frz _ = _
    rw [e, frz_lst]
theorem partOf_mem {os : List Int} {k i : Nat} {d : PyData} (h : d ∈ partOf os k i) : ∃ g : Nat, d = .int g ∧ g < k := by
  unfold partOf at h
  obtain ⟨g, hg, rfl⟩ := List.mem_map.mp h
  exact ⟨g, rfl, List.mem_range.mp (List.mem_filter.mp hg).1⟩
def tabD (rows : List (List Int)) (os : List Int) (f : List PyData → PyData) : List PyData := rows.map fun r => f ((List.range rows.length).map fun k => .int (worthOf r (partOf os os.length k)))
theorem ints_back (r : List Int) : (r.map PyData.int).map (fun x => match x with | .int i => i | _ => 0) = r := by
  induction r with
  | nil => rfl
  | cons a r ih => exact congrArg (a :: ·) ih
theorem wtab_eq {rows : List (List Int)} {os : List Int} (hn : rows.length ≤ 1000) (hl : os.length ≤ 1000) (hr : ∀ r ∈ rows, r.length = os.length) (ho : ∀ o ∈ os, 0 ≤ o ∧ o < rows.length) :
    outR (d_worth_table (startE 5 [.fz (.tuple (rowsD rows)), .fz (.tuple (os.map .int))])) = .ret (.fz (.list (tabD rows os .list))) := by
  have e0 : startE 5 [.fz (.tuple (rowsD rows)), .fz (.tuple (os.map .int))] = [some (.fz (.tuple (rowsD rows))), some (.fz (.tuple (os.map .int))), none, none, none] := rfl
  rw [e0]
  unfold d_worth_table
  have hlen : (rowsD rows).length = rows.length := by simp [rowsD]
  refine Eq.trans (oset (yq_call2 (yq_len (n := rows.length) (yq_pk (d := .tuple (rowsD rows)) rfl) (by simp only [lenV, hlen])) (yq_pk rfl) (parts_eq hn hl ho)) (by show 2 < 5; decide)) ?_
  show outR (dRet _ [some (.fz (.tuple (rowsD rows))), some (.fz (.tuple (os.map .int))), some (.fz (.list (partsD os rows.length os.length))), none, none]) = _
  have inner : ∀ r ∈ rows, YQ (dLc (gNm 4) (dIt (dTk 2)) (dLit (.bool true)) (dCall 3 d_worth [dPk 3, dPk 4]) [4]) [some (.fz (.tuple (rowsD rows))), some (.fz (.tuple (os.map .int))), some (.fz (.list (partsD os rows.length os.length))), some (.fz (.tuple (r.map .int))), none] (.own (.lst (((List.range rows.length).map fun k => (.int (worthOf r (partOf os os.length k)) : PyData)).map M.fz))) := fun r hrm => by
    have z := yq_lc0 (p := gNm 4) (src := dIt (dTk 2)) (f := dCall 3 d_worth [dPk 3, dPk 4]) (vs := [4]) (env := [some (.fz (.tuple (rowsD rows))), some (.fz (.tuple (os.map .int))), some (.fz (.list (partsD os rows.length os.length))), some (.fz (.tuple (r.map .int))), none])
      [some (.fz (.tuple (rowsD rows))), some (.fz (.tuple (os.map .int))), some (.fz (.list (partsD os rows.length os.length))), some (.fz (.tuple (r.map .int))), none] (fun d => match d with
        | .tuple gs => .fz (.int (worthOf r gs))
        | _ => .fz .none) (yq_it (m := .fz (.list (partsD os rows.length os.length))) (yq_tk rfl) rfl rfl) (fun d hd => by
        unfold partsD at hd
        obtain ⟨k, _, rfl⟩ := List.mem_map.mp hd
        refine ⟨[some (.fz (.tuple (rowsD rows))), some (.fz (.tuple (os.map .int))), some (.fz (.list (partsD os rows.length os.length))), some (.fz (.tuple (r.map .int))), some (.fz (.tuple (partOf os os.length k)))], rfl, yq_call2 (yq_pk rfl) (yq_pk rfl) (worth_eq fun d hd => ?_), rfl⟩
        obtain ⟨g, rfl, hg⟩ := partOf_mem hd
        exact ⟨g, rfl, by rw [hr r hrm]; exact hg⟩)
    have e : (partsD os rows.length os.length).map (fun d => match d with
        | .tuple gs => (.fz (.int (worthOf r gs)) : M)
        | _ => .fz .none) = ((List.range rows.length).map fun k => (.int (worthOf r (partOf os os.length k)) : PyData)).map M.fz := by
      unfold partsD
      simp
    rw [e] at z
    exact z
  refine oret (yq_fr (yq_lc0 [some (.fz (.tuple (rowsD rows))), some (.fz (.tuple (os.map .int))), some (.fz (.list (partsD os rows.length os.length))), none, none] (fun d => match d with
      | .tuple cs => .lst (((List.range rows.length).map fun k => (.int (worthOf (cs.map fun x => match x with | .int i => i | _ => 0) (partOf os os.length k)) : PyData)).map M.fz)
      | _ => .fz .none) (yq_it (m := .fz (.tuple (rowsD rows))) (yq_tk rfl) rfl rfl) fun d hd => ?_) ?_)
  · unfold rowsD at hd
    obtain ⟨r, hrm, rfl⟩ := List.mem_map.mp hd
    refine ⟨[some (.fz (.tuple (rowsD rows))), some (.fz (.tuple (os.map .int))), some (.fz (.list (partsD os rows.length os.length))), some (.fz (.tuple (r.map .int))), none], rfl, ?_, rfl⟩
    have e : (r.map PyData.int).map (fun x => match x with | .int i => i | _ => 0) = r := ints_back r
    simp only [e]
    exact inner r hrm
  · have e : ∀ rs : List (List Int), (∀ r ∈ rs, r ∈ rows) → frzs ((rs.map fun r => (.tuple (r.map .int) : PyData)).map (fun d => match d with
      | .tuple cs => (.lst (((List.range rows.length).map fun k => (.int (worthOf (cs.map fun x => match x with | .int i => i | _ => 0) (partOf os os.length k)) : PyData)).map M.fz) : M)
      | _ => .fz .none)) = some (rs.map fun r => .list ((List.range rows.length).map fun k => .int (worthOf r (partOf os os.length k)))) := by
      intro rs _
      induction rs with
      | nil => rfl
      | cons r rs ih =>
        have e : (r.map PyData.int).map (fun x => match x with | .int i => i | _ => 0) = r := ints_back r
        have ih := ih fun x hx => by simp_all
        simp only [List.map_cons, frzs, e, frz_lst, Option.bind_some]
        rw [ih]; rfl
    show (frzs _).map _ = _
    unfold rowsD tabD
    rw [e rows fun _ h => h]; rfl
def tabT (rn : List (List Nat)) (os : List Nat) : PyData := .list ((List.range rn.length).map fun i => .list (natsD ((List.range rn.length).map fun k => pw rn os i k)))
theorem worth_pw {rn : List (List Nat)} {os : List Nat} {i : Nat} (hi : i < rn.length) (k : Nat) : worthOf (up (rn.getD i [])) (partOf (up os) os.length k) = (pw rn os i k : Nat) := by
  unfold worthOf partOf
  rw [List.map_map]
  have e1 : ((List.range os.length).filter fun g => (up os)[g]? == some (k : Int)) = (List.range os.length).filter fun g => decide (os.getD g 0 = k) := by
    apply List.filter_congr
    intro g hg
    have hg := List.mem_range.mp hg
    have : (up os)[g]? = some ((os.getD g 0 : Nat) : Int) := by simp [up, hg]
    rw [this]
    generalize os.getD g 0 = x
    by_cases h : x = k
    · subst h; simp
    · have : (x : Int) ≠ (k : Int) := by omega
      rw [decide_eq_false h]
      simpa using this
  rw [e1]
  have e2 : ((List.range os.length).filter fun g => decide (os.getD g 0 = k)).map (atD (up (rn.getD i [])) ∘ fun g => PyData.int (g : Nat)) = (((List.range os.length).filter fun g => decide (os.getD g 0 = k)).map (wv rn i)).map fun x : Nat => (x : Int) := by
    rw [List.map_map]
    apply List.map_congr_left
    intro g _
    show (up (rn.getD i [])).getD (g : Int).toNat 0 = ((wv rn i g : Nat) : Int)
    rw [Int.toNat_natCast]
    unfold up wv
    simp only [List.getD_eq_getElem?_getD, List.getElem?_map]
    cases (rn[i]?.getD [])[g]? <;> rfl
  rw [e2, sum_cast, sum_if]
  congr 1
  unfold pw
  congr 1
  apply List.map_congr_left
  intro g _
  simp only [decide_eq_true_eq]
theorem tab_eq {rn : List (List Nat)} {os : List Nat} {m t : Nat} (gr : GoodR rn m) (go : GoodO rn.length m os) : outR (d_worth_table (startE 5 [.fz (gD rn), .fz (.tuple (natsD os))])) = .ret (.fz (tabT rn os)) := by
  have hl := go.len
  have n6 := gr.n6
  have m9 := gr.m9
  have hup : (up os).length = os.length := by simp [up]
  have z := wtab_eq (rows := rn.map up) (os := up os) (by rw [List.length_map]; omega) (by rw [hup]; omega) (fun r hr => by
    obtain ⟨r0, h0, rfl⟩ := List.mem_map.mp hr
    have := gr.len r0 h0
    have e : (up r0).length = r0.length := by simp [up]
    rw [hup, e]
    omega) (fun o ho => by
    obtain ⟨x, hx, rfl⟩ := List.mem_map.mp ho
    have := go.lt x hx
    rw [List.length_map]
    omega)
  rw [gD_rows, natsD_ints]
  refine z.trans ?_
  congr 2
  unfold tabD tabT
  congr 1
  apply List.ext_getElem
  · simp
  · intro i h1 h2
    have hi : i < rn.length := by simpa using h1
    simp only [List.getElem_map, List.getElem_range, List.length_map]
    congr 1
    unfold natsD
    refine Eq.trans (List.map_congr_left fun k _ => ?_) List.map_map.symm
    have := worth_pw (os := os) hi k
    have e : rn.getD i [] = rn[i] := by simp [hi]
    rw [e, ← hup] at this
    exact congrArg PyData.int this
section
variable {rn : List (List Nat)} {os ws : List Nat} {m : Nat}
theorem yq_T {f fi fk : Ev → Res} {env : Ev} {i k : Nat} (h : YQ f env (.own (.fz (tabT rn os)))) (h1 : YQ fi env (.own (.fz (.int (i : Nat))))) (h2 : YQ fk env (.own (.fz (.int (k : Nat))))) (hi : i < rn.length) (hk : k < rn.length) : YQ (dIx (dIx f fi) fk) env (.own (.fz (.int (pw rn os i k : Nat)))) := by
  have e : ixV (.own (.fz (tabT rn os))) (i : Int) = some (.own (.fz (.list (natsD ((List.range rn.length).map fun k => pw rn os i k))))) := by
    show (atI ((List.range rn.length).map fun i => PyData.list (natsD ((List.range rn.length).map fun k => pw rn os i k))) (i : Int)).map _ = _
    unfold atI
    rw [List.length_map, List.length_range, ixN_of hi]
    simp [hi]
  have z := yq_ix (yq_ix h h1 e) h2 (ix_lstN (l := (List.range rn.length).map fun k => pw rn os i k) (i := k) (by simpa using hk))
  have e2 : ((List.range rn.length).map fun k => pw rn os i k).getD k 0 = pw rn os i k := by simp [hk]
  rw [e2] at z
  exact z
def unI : PyData → Nat
  | .int i => i.toNat
  | _ => 0
theorem find_some {p : Nat → Bool} : ∀ l : List Nat, (natsD l).findSome? (fun d => if p (unI d) = true then some (unI d) else none) = l.find? p
  | [] => rfl
  | a :: l => by
    have ih := find_some (p := p) l
    have e : natsD (a :: l) = .int (a : Nat) :: natsD l := rfl
    rw [e, List.findSome?_cons, List.find?_cons]
    have ea : unI (.int (a : Nat)) = a := rfl
    rw [ea]
    cases p a with
    | true => simp
    | false => simpa using ih
theorem find_rng {A : Type} (F : Nat → Option A) (n : Nat) : (rngD 0 n).findSome? (fun d => F (unI d)) = (List.range n).findSome? F := by
  rw [rngD_ints, List.findSome?_map]
  rfl
theorem pw_lt (gr : GoodR rn m) (go : GoodO rn.length m os) {i k : Nat} (hi : i < rn.length) : pw rn os i k < 2 ^ 20 := by
  have := pw_le gr go (Nat.le_refl m) (k := k) hi
  omega
def gl (os : List Nat) (k : Nat) : List Nat := (List.range os.length).filter fun g => decide (os.getD g 0 = k)
theorem partOf_nats (os : List Nat) (k : Nat) : partOf (up os) os.length k = natsD (gl os k) := by
  unfold partOf gl natsD
  congr 1
  apply List.filter_congr
  intro g hg
  have hg := List.mem_range.mp hg
  have : (up os)[g]? = some ((os.getD g 0 : Nat) : Int) := by simp [up, hg]
  rw [this]
  generalize os.getD g 0 = x
  by_cases h : x = k
  · subst h; simp
  · have : (x : Int) ≠ (k : Int) := by omega
    rw [decide_eq_false h]
    simpa using this
theorem ix_parts {n k : Nat} (hk : k < n) : ixV (.own (.fz (.list (partsD (up os) n os.length)))) (k : Int) = some (.own (.fz (.tuple (natsD (gl os k))))) := by
  have hl : (partsD (up os) n os.length).length = n := by simp [partsD]
  simp only [ixV, atI, hl, ixN_of hk, Option.bind_some]
  have : (partsD (up os) n os.length)[k]? = some (.tuple (natsD (gl os k))) := by
    rw [← partOf_nats]
    simp [partsD, hk]
  rw [this]
  rfl
theorem parts_eqN (gr : GoodR rn m) (go : GoodO rn.length m os) : outR (d_parts_of (startE 6 [.fz (.int (rn.length : Nat)), .fz (.tuple (natsD os))])) = .ret (.fz (.list (partsD (up os) rn.length os.length))) := by
  have n6 := gr.n6
  have m9 := gr.m9
  have hl := go.len
  have hup : (up os).length = os.length := by simp [up]
  have z := parts_eq (os := up os) (n := rn.length) (by omega) (by omega) (fun o ho => by
    obtain ⟨x, hx, rfl⟩ := List.mem_map.mp ho
    have := go.lt x hx
    omega)
  rw [hup] at z
  rw [natsD_ints]
  exact z
end
/-! ### picks -/
theorem light_min {P : Nat → Int × Int} {a b : Nat} {l : List Nat} (hP : ∀ g, (P g).2 = (g : Int)) (hb : b ∈ a :: l) (hm : ∀ g ∈ a :: l, (P b).1 ≤ (P g).1 ∧ (g < b → (P b).1 < (P g).1)) : PySem.W.minD (pairD (P a)) (l.map fun g => pairD (P g)) = pairD (P b) := by
  have h1 := minD_mem (pairD (P a)) (l.map fun g => pairD (P g))
  have hle := minD_least (d := pairD (P a)) (ds := l.map fun g => pairD (P g))
  rw [← List.map_cons (f := fun g => pairD (P g))] at h1 hle
  obtain ⟨j, hj, e⟩ := List.mem_map.mp h1
  rw [← e] at hle ⊢
  have := hle (pairD (P b)) (List.mem_map.mpr ⟨b, hb, rfl⟩)
  rw [lt_pair, decide_eq_false_iff_not, hP, hP] at this
  obtain ⟨h2, h3⟩ := hm j hj
  have : j = b := by
    by_cases hlt : j < b
    · have := h3 hlt
      omega
    · omega
  rw [this]
section
variable {rn : List (List Nat)} {ts os : List Nat} {m t : Nat} {O : List (Option Nat)}
theorem ck_lt (gr : GoodR rn m) {i a b : Nat} (hi : i < rn.length) (ha : a < m) (hb : b < m) : ck rn i a < ck rn i b ↔ wv rn i b < wv rn i a := by
  have h1 := wv_rng gr hi ha
  have h2 := wv_rng gr hi hb
  unfold ck
  omega
theorem fav_eq (gr : GoodR rn m) {i b : Nat} {l : List Nat} (hi : i < rn.length) (hl : ∀ g ∈ l, g < m) (hb : b ∈ l) (hm : ∀ g ∈ l, ck rn i b ≤ ck rn i g ∧ (g < b → ck rn i b < ck rn i g)) : outR (d_favourite (startE 3 [.fz (.tuple (natsD (rn.getD i []))), .fz (.list (natsD l))])) = .ret (.fz (.int (b : Nat))) := by
  have e0 : startE 3 [.fz (.tuple (natsD (rn.getD i []))), .fz (.list (natsD l))] = [tM (rn.getD i []), lM l, none] := rfl
  rw [e0]
  unfold d_favourite
  have hrl := row_len gr hi
  have lc := yq_lc0 (p := gNm 2) (src := dIt (dTk 1)) (f := dTup [dOp oNeg [dIx (dPk 0) (dPk 2)], dTk 2]) (vs := [2]) (env := [tM (rn.getD i []), lM l, none]) [tM (rn.getD i []), lM l, none] (fun d => match d with
    | .int g => .fz (pairD (-((wv rn i g.toNat : Nat) : Int), (g.toNat : Nat)))
    | _ => .fz .none) (yq_it (m := .fz (.list (natsD l))) (yq_tk (i := 1) rfl) rfl rfl) (fun d hd => by
      obtain ⟨g, hg, rfl⟩ := List.mem_map.mp hd
      refine ⟨[tM (rn.getD i []), lM l, nM g], rfl, ?_, rfl⟩
      exact yq_Fn (ys_cons (yq_neg (yq_ix (yq_pk (i := 0) rfl) (yq_pk (i := 2) rfl) (ix_tupN (by have := hl g hg; omega)))) (ys_cons (yq_tk (i := 2) rfl) ys_nil)) rfl) rfl rfl rfl
  obtain ⟨a, l', rfl⟩ : ∃ a l', l = a :: l' := by
    cases l with
    | nil => cases hb
    | cons a l' => exact ⟨a, l', rfl⟩
  have e : (natsD (a :: l')).map (fun d => (match d with
    | .int g => (.fz (pairD (-((wv rn i g.toNat : Nat) : Int), (g.toNat : Nat))) : M)
    | _ => .fz .none)) = (([-((wv rn i a : Nat) : Int), (a : Int)] :: l'.map fun g => [-((wv rn i g : Nat) : Int), (g : Int)]).map fun l : List Int => PyData.tuple (l.map .int)).map M.fz := by
    unfold natsD
    rw [List.map_map, List.map_cons, List.map_cons, List.map_cons, List.map_map, List.map_map]
    rfl
  rw [e] at lc
  refine oret (yq_fr (m := .fz (.int (b : Nat))) (yq_ix (i := 1) (yq_minT lc (frz_lst _) (r := pairD (-((wv rn i b : Nat) : Int), (b : Nat))) ?_) yq_lit rfl) rfl)
  rw [List.map_map]
  exact light_min (P := fun g => (-((wv rn i g : Nat) : Int), (g : Nat))) (fun _ => rfl) hb fun g hg => by
    have := hm g hg
    have h1 := wv_rng gr hi (hl g hg)
    have h2 := wv_rng gr hi (hl b hb)
    unfold ck at this
    show -((wv rn i b : Nat) : Int) ≤ -((wv rn i g : Nat) : Int) ∧ (g < b → -((wv rn i b : Nat) : Int) < -((wv rn i g : Nat) : Int))
    omega
def gd (O : List (Option Nat)) : List Nat := O.map fun o => o.getD 0
theorem gd_set (O : List (Option Nat)) (b i : Nat) : gd (O.set b (some i)) = (gd O).set b i := by
  unfold gd
  rw [List.map_set]
  rfl
end
end Q

set_option Elab.async false
set_option linter.all false
set_option maxRecDepth 100000
set_option maxHeartbeats 4000000
set_option exponentiation.threshold 1000
/-! Round robin. -/
namespace Q
open PySem PySem.Spec PyProof.Rows L2
section
variable {rn : List (List Nat)} {od ts : List Nat} {m t : Nat} {O : List (Option Nat)}
/-! ### what is picked -/
def bst (rn : List (List Nat)) (ts : List Nat) (m t : Nat) : Nat := (bestO (ck rn (ts.getD t 0)) (leftO (pkO rn ts m t))).getD 0
theorem bst_ok (ht : t < m) : bst rn ts m t ∈ leftO (pkO rn ts m t) ∧ ∀ g ∈ leftO (pkO rn ts m t), ck rn (ts.getD t 0) (bst rn ts m t) ≤ ck rn (ts.getD t 0) g ∧ (g < bst rn ts m t → ck rn (ts.getD t 0) (bst rn ts m t) < ck rn (ts.getD t 0) g) := by
  obtain ⟨b, eb, hb, hm⟩ := best_left (ck rn (ts.getD t 0)) (pk_ne (rows := rn) (ts := ts) ht)
  have e : bst rn ts m t = b := by unfold bst; rw [eb]; rfl
  rw [e]
  exact ⟨hb, hm⟩
theorem pk_step : pkO rn ts m (t + 1) = (pkO rn ts m t).set (bst rn ts m t) (some (ts.getD t 0)) := rfl
def pks (rn : List (List Nat)) (ts : List Nat) (m t : Nat) : List (Nat × Nat) := (List.range t).map fun s => (ts.getD s 0, bst rn ts m s)
def prD (P : List (Nat × Nat)) : List PyData := P.map fun p => .tuple [.int (p.1 : Nat), .int (p.2 : Nat)]
theorem pks_len (t : Nat) : (prD (pks rn ts m t)).length = t := by simp [prD, pks]
theorem pks_snoc (t : Nat) : (prD (pks rn ts m t)).map M.fz ++ [.fz (.tuple [.int (ts.getD t 0 : Nat), .int (bst rn ts m t : Nat)])] = (prD (pks rn ts m (t + 1))).map .fz := by
  unfold pks prD
  rw [List.range_succ, List.map_append, List.map_append, List.map_append]
  rfl
/-! ### the share -/
abbrev tE (rn : List (List Nat)) (od : List Nat) (O : List (Option Nat)) (t : Nat) (x5 x6 : Option M) : Ev := [gM rn, tM od, lM (leftO O), oM (gd O), nM t, x5, x6, none]
abbrev condT : Ev → Res := dG (kPl oGt) [dG (kLen) [dPk 2], dLit (.int 0)]
noncomputable abbrev bodyT : Ev → Out := (dSeq (dSet 5 (dFr (dIx (dPk 1) (dG (kPl oMod) [dPk 4, dG (kLen) [dPk 1]]))))
    (dSeq (dSet 6 (dCall 3 d_favourite [dIx (dPk 0) (dPk 5), dPk 2]))
    (dSeq (dAsg (gPut 3 (dPk 6)) (dTk 5))
    (dSeq (dSetF 2 (dLc (gNm 7) (dIt (dTk 2)) (dG (kPl oNe) [dPk 7, dPk 6]) (dTk 7) [7]))
    (dAug 4 (fun i j => some (i + j)) (dLit (.int 1)))))))
theorem yq_condT {x5 x6 : Option M} {O : List (Option Nat)} : YQ condT (tE rn od O t x5 x6) (.own (.fz (.bool (decide (0 < (leftO O).length))))) :=
  yq_gtN (b := 0) (yq_len (n := (leftO O).length) (yq_pk (i := 2) (d := .list (natsD (leftO O))) (env := tE rn od O t x5 x6) rfl) (by simp only [lenV, natsD_len])) yq_litN rfl
theorem left_fl (O : List (Option Nat)) (b i : Nat) : ((natsD (leftO O)).filter fun d => match d with
    | .int j => !decide (j.toNat = b)
    | _ => false).map M.fz = (natsD (leftO (O.set b (some i)))).map .fz := by
  rw [left_set]
  unfold natsD
  rw [List.filter_map]
  rfl
theorem turn_one (gr : GoodR rn m) (hp : od.Perm (List.range rn.length)) (ht : t < m) {x5 x6 : Option M} : ∃ x5' x6', bodyT (tE rn od (pkO rn (rrT od m) m t) t x5 x6) = .nx (tE rn od (pkO rn (rrT od m) m (t + 1)) (t + 1) x5' x6') := by
  have n1 := gr.n1
  have ol : od.length = rn.length := by rw [hp.length_eq, List.length_range]
  have hg := rrT_get (od := od) ht
  have hi : od.getD (t % od.length) 0 < rn.length := List.mem_range.mp (hp.mem_iff.mp (get_mem (Nat.mod_lt _ (by omega))))
  obtain ⟨hb, hm⟩ := bst_ok (rn := rn) (ts := rrT od m) ht
  rw [pk_step]
  rw [hg] at hm ⊢
  have hO := pkO_len (rows := rn) (ts := rrT od m) (m := m) t
  generalize bst rn (rrT od m) m t = b at *
  generalize pkO rn (rrT od m) m t = O at *
  have s5 : dSet 5 (dFr (dIx (dPk 1) (dG (kPl oMod) [dPk 4, dG (kLen) [dPk 1]]))) (tE rn od O t x5 x6) = .nx (tE rn od O t (nM (od.getD (t % od.length) 0)) x6) :=
    out_set (yq_fr (m := .fz (.int (od.getD (t % od.length) 0 : Nat))) (yq_ix (yq_pk (i := 1) rfl) (yq_modN (yq_pk (i := 4) rfl) (yq_len (n := od.length) (yq_pk (i := 1) (d := .tuple (natsD od)) rfl) (by simp only [lenV, natsD_len])) (by omega)) (ix_tupN (Nat.mod_lt _ (by omega)))) rfl) (by show 5 < 8; decide)
  generalize od.getD (t % od.length) 0 = i at *
  have lt : ∀ g ∈ leftO O, g < m := fun g hg => by have := (left_mem.mp hg).1; omega
  have s6 : dSet 6 (dCall 3 d_favourite [dIx (dPk 0) (dPk 5), dPk 2]) (tE rn od O t (nM i) x6) = .nx (tE rn od O t (nM i) (nM b)) :=
    out_set (yq_call2 (yq_ix (yq_pk (i := 0) rfl) (yq_pk (i := 5) rfl) (ix_gD hi)) (yq_pk (i := 2) rfl) (fav_eq gr hi lt hb hm)) (by show 6 < 8; decide)
  have gl : (gd O).length = m := by unfold gd; rw [List.length_map]; exact hO
  refine ⟨nM i, nM b, (out_seq s5).trans ((out_seq s6).trans ?_)⟩
  refine (out_seq (out_put (s := 3) (k := (b : Nat)) (j := b) (ms := (natsD (gd O)).map .fz) (d := .int (i : Nat)) (yq_tk (i := 5) rfl) (yq_pk (i := 6) rfl) rfl (by rw [List.length_map, natsD_len, gl]; exact ixN_of (lt b hb)))).trans ?_
  rw [nats_set, ← gd_set]
  have lc := yq_lc (p := gNm 7) (src := dIt (dTk 2)) (t := dG (kPl oNe) [dPk 7, dPk 6]) (f := dTk 7) (vs := [7]) (env := [gM rn, tM od, lM (leftO O), oM (gd (O.set b (some i))), nM t, nM i, nM b, none]) [gM rn, tM od, lM (leftO O), oM (gd (O.set b (some i))), nM t, nM i, nM b, none] (fun d => match d with
    | .int j => !decide (j.toNat = b)
    | _ => false) M.fz (yq_it (m := .fz (.list (natsD (leftO O)))) (yq_tk (i := 2) rfl) rfl rfl) (fun d hd => by
      obtain ⟨g, hg, rfl⟩ := List.mem_map.mp hd
      refine ⟨[gM rn, tM od, lM (leftO O), oM (gd (O.set b (some i))), nM t, nM i, nM b, nM g], rfl, ?_, fun _ => yq_tk (i := 7) rfl, rfl⟩
      exact yq_neN (yq_pk (i := 7) rfl) (yq_pk (i := 6) rfl) (by simp)) rfl rfl rfl
  refine (out_seq (out_set (m := .fz (.list (natsD (leftO (O.set b (some i)))))) (yq_fr (m := .lst ((natsD (leftO (O.set b (some i)))).map .fz)) (Eq.mp (congrArg (fun l => YQ _ _ (Val.own (.lst l))) (left_fl O b i)) lc) (frz_lst _)) (by show 2 < 8; decide))).trans ?_
  exact out_aug (i := 4) (a := (t : Nat)) (b := 1) (c := ((t + 1 : Nat) : Int)) rfl yq_lit (by simp) (by show 4 < 8; decide)
theorem turns_run (gr : GoodR rn m) (hp : od.Perm (List.range rn.length)) : ∀ (k t : Nat) (x5 x6 : Option M), t + k = m → ∃ n x5' x6', runW condT bodyT n (tE rn od (pkO rn (rrT od m) m t) t x5 x6) = .nx (tE rn od (pkO rn (rrT od m) m m) m x5' x6')
  | 0, t, x5, x6, h => by
    have : t = m := by omega
    subst this
    have l := pk_left (rows := rn) (ts := rrT od t) (m := t) t (Nat.le_refl _)
    have z := yq_condT (rn := rn) (od := od) (t := t) (O := pkO rn (rrT od t) t t) (x5 := x5) (x6 := x6)
    rw [decide_eq_false (by omega)] at z
    exact ⟨1, x5, x6, runW_F z⟩
  | k + 1, t, x5, x6, h => by
    have l := pk_left (rows := rn) (ts := rrT od m) (m := m) t (by omega)
    have z := yq_condT (rn := rn) (od := od) (t := t) (O := pkO rn (rrT od m) m t) (x5 := x5) (x6 := x6)
    rw [decide_eq_true (by omega)] at z
    obtain ⟨y5, y6, hb⟩ := turn_one (t := t) gr hp (by omega) (x5 := x5) (x6 := x6)
    obtain ⟨n, x5', x6', hr⟩ := turns_run gr hp k (t + 1) y5 y6 (by omega)
    exact ⟨n + 1, x5', x6', (runW_T z hb).trans hr⟩
theorem gd_pk0 : gd (pkO rn ts m 0) = List.replicate m 0 := by
  unfold gd pkO
  rw [List.map_replicate]
  rfl
theorem robin_eq (gr : GoodR rn m) (hp : od.Perm (List.range rn.length)) : outR (d_round_robin (startE 8 [.fz (gD rn), .fz (.tuple (natsD od))])) = .ret (.fz (.tuple (natsD (pkL rn (rrT od m) m)))) := by
  have e0 : startE 8 [.fz (gD rn), .fz (.tuple (natsD od))] = [gM rn, tM od, none, none, none, none, none, none] := rfl
  rw [e0]
  unfold d_round_robin
  have n1 := gr.n1
  have n6 := gr.n6
  have m9 := gr.m9
  refine Eq.trans (oex (yq_call1 (yq_pk (i := 0) rfl) (by rw [check_eq (gD_nd gr), gD_game gr]; rfl))) ?_
  refine Eq.trans (oskip (yq_not (c := true) (yq_tru (yq_call2 (yq_pk (i := 1) rfl) (yq_lenG (yq_pk (i := 0) rfl)) (ord_yes (by omega) hp)) rfl))) ?_
  have l0 : YQ (dG (kLen) [dIx (dPk 0) (dLit (.int 0))]) [gM rn, tM od, none, none, none, none, none, none] (.own (.fz (.int (m : Nat)))) := yq_len (n := m) (yq_ix (i := ((0 : Nat) : Int)) (yq_pk (i := 0) rfl) yq_lit (ix_gD (i := 0) (by omega))) (by
    simp only [lenV, natsD_len]
    rw [row_len gr (by omega)])
  have s1 : dPar3 2 3 4 (dFr (dG kLRng [dG (kLen) [dIx (dPk 0) (dLit (.int 0))]])) (dG kMul [dLst [dLit (.int 0)], dG (kLen) [dIx (dPk 0) (dLit (.int 0))]]) (dLit (.int 0)) [gM rn, tM od, none, none, none, none, none, none] = .nx (tE rn od (pkO rn (rrT od m) m 0) 0 none none) := by
    have y1 : YQ (dFr (dG kLRng [dG (kLen) [dIx (dPk 0) (dLit (.int 0))]])) [gM rn, tM od, none, none, none, none, none, none] (.own (.fz (.list (natsD (List.range m))))) := by
      have z := yq_fr (m := .lst ((rngD 0 m).map .fz)) (yq_G (b := true) (k := kLRng) (ys_cons l0 ys_nil) (klrng (by omega))) (frz_lst _)
      rw [rngD_ints] at z
      exact z
    have y2 : YQ (dG kMul [dLst [dLit (.int 0)], dG (kLen) [dIx (dPk 0) (dLit (.int 0))]]) [gM rn, tM od, none, none, none, none, none, none] (.own (.lst ((natsD (List.replicate m 0)).map .fz))) :=
      yq_G (b := true) (ys_cons (x := .own (.lst [.fz (.int 0)])) (yq_Fn (ys_cons yq_lit ys_nil) rfl) (ys_cons l0 ys_nil)) (kmul_zeros (by omega))
    rw [out_par3 (ys_cons y1 (ys_cons y2 (ys_cons yq_lit ys_nil))) (by show 2 < 8; decide) (by show 3 < 8; decide) (by show 4 < 8; decide), ← gd_pk0 (rn := rn) (ts := rrT od m), ← left0 (rows := rn) (ts := rrT od m)]
    rfl
  rw [out_seq s1]
  obtain ⟨n, x5, x6, hr⟩ := turns_run gr hp m 0 none none (by omega)
  rw [out_seq (dWhile_of hr (by simp))]
  exact oret (yq_tupOf (yq_vw (i := 3) (ms := (natsD (gd (pkO rn (rrT od m) m m))).map .fz) rfl) (seqv_vw _))
/-! ### the picks -/
abbrev uE (rn : List (List Nat)) (od : List Nat) (x2 : Option M) (O : List (Option Nat)) (P : List PyData) (x5 x6 : Option M) : Ev := [gM rn, tM od, x2, lM (leftO O), some (.lst (P.map .fz)), x5, x6, none]
abbrev condU : Ev → Res := dG (kPl oGt) [dG (kLen) [dPk 3], dLit (.int 0)]
noncomputable abbrev bodyU : Ev → Out := (dSeq (dSet 5 (dFr (dIx (dPk 1) (dG (kPl oMod) [dG (kLen) [dPk 4], dG (kLen) [dPk 1]]))))
    (dSeq (dSet 6 (dCall 3 d_favourite [dIx (dPk 0) (dPk 5), dPk 3]))
    (dSeq (dSetF 3 (dLc (gNm 7) (dIt (dTk 3)) (dG (kPl oNe) [dPk 7, dPk 6]) (dTk 7) [7]))
    (dEx (dApp 4 (dTup [dTk 5, dTk 6]))))))
theorem yq_condU {x2 x5 x6 : Option M} {P : List PyData} {O : List (Option Nat)} : YQ condU (uE rn od x2 O P x5 x6) (.own (.fz (.bool (decide (0 < (leftO O).length))))) :=
  yq_gtN (b := 0) (yq_len (n := (leftO O).length) (yq_pk (i := 3) (d := .list (natsD (leftO O))) (env := uE rn od x2 O P x5 x6) rfl) (by simp only [lenV, natsD_len])) yq_litN rfl
theorem pick_one (gr : GoodR rn m) (hp : od.Perm (List.range rn.length)) (ht : t < m) {x5 x6 : Option M} {os : List Nat} : ∃ x5' x6', bodyU (uE rn od (tM os) (pkO rn (rrT od m) m t) (prD (pks rn (rrT od m) m t)) x5 x6) = .nx (uE rn od (tM os) (pkO rn (rrT od m) m (t + 1)) (prD (pks rn (rrT od m) m (t + 1))) x5' x6') := by
  have n1 := gr.n1
  have m9 := gr.m9
  have ol : od.length = rn.length := by rw [hp.length_eq, List.length_range]
  have hg := rrT_get (od := od) ht
  have hi : od.getD (t % od.length) 0 < rn.length := List.mem_range.mp (hp.mem_iff.mp (get_mem (Nat.mod_lt _ (by omega))))
  obtain ⟨hb, hm⟩ := bst_ok (rn := rn) (ts := rrT od m) ht
  have sn := pks_snoc (rn := rn) (ts := rrT od m) (m := m) t
  have pl := pks_len (rn := rn) (ts := rrT od m) (m := m) t
  rw [pk_step]
  rw [hg] at hm sn ⊢
  have hO := pkO_len (rows := rn) (ts := rrT od m) (m := m) t
  generalize bst rn (rrT od m) m t = b at *
  generalize pkO rn (rrT od m) m t = O at *
  generalize prD (pks rn (rrT od m) m t) = P at *
  have s5 : dSet 5 (dFr (dIx (dPk 1) (dG (kPl oMod) [dG (kLen) [dPk 4], dG (kLen) [dPk 1]]))) (uE rn od (tM os) O P x5 x6) = .nx (uE rn od (tM os) O P (nM (od.getD (t % od.length) 0)) x6) :=
    out_set (yq_fr (m := .fz (.int (od.getD (t % od.length) 0 : Nat))) (yq_ix (yq_pk (i := 1) rfl) (yq_modN (yq_len (n := t) (yq_vw (i := 4) (ms := P.map .fz) rfl) (by simp only [lenV, List.length_map, pl])) (yq_len (n := od.length) (yq_pk (i := 1) (d := .tuple (natsD od)) rfl) (by simp only [lenV, natsD_len])) (by omega)) (ix_tupN (Nat.mod_lt _ (by omega)))) rfl) (by show 5 < 8; decide)
  generalize od.getD (t % od.length) 0 = i at *
  have lt : ∀ g ∈ leftO O, g < m := fun g hg => by have := (left_mem.mp hg).1; omega
  have s6 : dSet 6 (dCall 3 d_favourite [dIx (dPk 0) (dPk 5), dPk 3]) (uE rn od (tM os) O P (nM i) x6) = .nx (uE rn od (tM os) O P (nM i) (nM b)) :=
    out_set (yq_call2 (yq_ix (yq_pk (i := 0) rfl) (yq_pk (i := 5) rfl) (ix_gD hi)) (yq_pk (i := 3) rfl) (fav_eq gr hi lt hb hm)) (by show 6 < 8; decide)
  refine ⟨nM i, nM b, (out_seq s5).trans ((out_seq s6).trans ?_)⟩
  have lc := yq_lc (p := gNm 7) (src := dIt (dTk 3)) (t := dG (kPl oNe) [dPk 7, dPk 6]) (f := dTk 7) (vs := [7]) (env := uE rn od (tM os) O P (nM i) (nM b)) (uE rn od (tM os) O P (nM i) (nM b)) (fun d => match d with
    | .int j => !decide (j.toNat = b)
    | _ => false) M.fz (yq_it (m := .fz (.list (natsD (leftO O)))) (yq_tk (i := 3) rfl) rfl rfl) (fun d hd => by
      obtain ⟨g, hg, rfl⟩ := List.mem_map.mp hd
      refine ⟨[gM rn, tM od, tM os, lM (leftO O), some (.lst (P.map .fz)), nM i, nM b, nM g], rfl, ?_, fun _ => yq_tk (i := 7) rfl, rfl⟩
      exact yq_neN (yq_pk (i := 7) rfl) (yq_pk (i := 6) rfl) (by simp)) rfl rfl rfl
  refine (out_seq (out_set (m := .fz (.list (natsD (leftO (O.set b (some i)))))) (yq_fr (m := .lst ((natsD (leftO (O.set b (some i)))).map .fz)) (Eq.mp (congrArg (fun l => YQ _ _ (Val.own (.lst l))) (left_fl O b i)) lc) (frz_lst _)) (by show 3 < 8; decide))).trans ?_
  have z := out_app (s := 4) (env := uE rn od (tM os) (O.set b (some i)) P (nM i) (nM b)) (ms := P.map .fz) (d := .tuple [.int (i : Nat), .int (b : Nat)]) (f := dTup [dTk 5, dTk 6]) rfl (yq_Fn (ys_cons (yq_tk (i := 5) rfl) (ys_cons (yq_tk (i := 6) rfl) ys_nil)) rfl) (by rw [List.length_map, pl]; unfold SZ; omega)
  rw [sn] at z
  exact z
theorem picks_run (gr : GoodR rn m) (hp : od.Perm (List.range rn.length)) {os : List Nat} : ∀ (k t : Nat) (x5 x6 : Option M), t + k = m → ∃ n x5' x6', runW condU bodyU n (uE rn od (tM os) (pkO rn (rrT od m) m t) (prD (pks rn (rrT od m) m t)) x5 x6) = .nx (uE rn od (tM os) (pkO rn (rrT od m) m m) (prD (pks rn (rrT od m) m m)) x5' x6')
  | 0, t, x5, x6, h => by
    have : t = m := by omega
    subst this
    have l := pk_left (rows := rn) (ts := rrT od t) (m := t) t (Nat.le_refl _)
    have z := yq_condU (rn := rn) (od := od) (x2 := tM os) (P := prD (pks rn (rrT od t) t t)) (O := pkO rn (rrT od t) t t) (x5 := x5) (x6 := x6)
    rw [decide_eq_false (by omega)] at z
    exact ⟨1, x5, x6, runW_F z⟩
  | k + 1, t, x5, x6, h => by
    have l := pk_left (rows := rn) (ts := rrT od m) (m := m) t (by omega)
    have z := yq_condU (rn := rn) (od := od) (x2 := tM os) (P := prD (pks rn (rrT od m) m t)) (O := pkO rn (rrT od m) m t) (x5 := x5) (x6 := x6)
    rw [decide_eq_true (by omega)] at z
    obtain ⟨y5, y6, hb⟩ := pick_one (t := t) (os := os) gr hp (by omega) (x5 := x5) (x6 := x6)
    obtain ⟨n, x5', x6', hr⟩ := picks_run gr hp k (t + 1) y5 y6 (by omega)
    exact ⟨n + 1, x5', x6', (runW_T z hb).trans hr⟩
theorem picks_eq (gr : GoodR rn m) (hp : od.Perm (List.range rn.length)) : outR (d_round_picks (startE 8 [.fz (gD rn), .fz (.tuple (natsD od))])) = .ret (.fz (.tuple (prD (pks rn (rrT od m) m m)))) := by
  have e0 : startE 8 [.fz (gD rn), .fz (.tuple (natsD od))] = [gM rn, tM od, none, none, none, none, none, none] := rfl
  rw [e0]
  unfold d_round_picks
  have n1 := gr.n1
  have n6 := gr.n6
  have m9 := gr.m9
  have pl : (pkL rn (rrT od m) m).length = m := by unfold pkL; rw [List.length_map, pkO_len]
  refine Eq.trans (oset (yq_call2 (yq_pk (i := 0) rfl) (yq_pk (i := 1) rfl) (robin_eq gr hp)) (by show 2 < 8; decide)) ?_
  have l0 : YQ (dG (kLen) [dPk 2]) [gM rn, tM od, tM (pkL rn (rrT od m) m), none, none, none, none, none] (.own (.fz (.int (m : Nat)))) := yq_len (n := m) (yq_pk (i := 2) rfl) (by simp only [lenV, natsD_len, pl])
  have s1 : dPar 3 4 (dFr (dG kLRng [dG (kLen) [dPk 2]])) (dLst []) [gM rn, tM od, tM (pkL rn (rrT od m) m), none, none, none, none, none] = .nx (uE rn od (tM (pkL rn (rrT od m) m)) (pkO rn (rrT od m) m 0) (prD (pks rn (rrT od m) m 0)) none none) := by
    have y1 : YQ (dFr (dG kLRng [dG (kLen) [dPk 2]])) [gM rn, tM od, tM (pkL rn (rrT od m) m), none, none, none, none, none] (.own (.fz (.list (natsD (List.range m))))) := by
      have z := yq_fr (m := .lst ((rngD 0 m).map .fz)) (yq_G (b := true) (k := kLRng) (ys_cons l0 ys_nil) (klrng (by omega))) (frz_lst _)
      rw [rngD_ints] at z
      exact z
    rw [out_par (ys_cons y1 (ys_cons (yq_Fn ys_nil rfl : YQ (dLst []) _ (.own (.lst []))) ys_nil)) (by show 3 < 8; decide) (by show 4 < 8; decide), ← left0 (rows := rn) (ts := rrT od m)]
    rfl
  refine Eq.trans (congrArg outR (out_seq s1)) ?_
  obtain ⟨n, x5, x6, hr⟩ := picks_run gr hp (os := pkL rn (rrT od m) m) m 0 none none (by omega)
  rw [out_seq (dWhile_of hr (by simp))]
  exact oret (yq_tupOf (yq_vw (i := 4) (ms := (prD (pks rn (rrT od m) m m)).map .fz) rfl) (seqv_vw _))
end
end Q

set_option Elab.async false
set_option linter.all false
set_option maxRecDepth 100000
set_option maxHeartbeats 4000000
set_option exponentiation.threshold 1000
/-! ef1; an order drawn. -/
namespace Q
open PySem PySem.Spec PyProof.Rows L2
theorem tkL {e : Dr → Ev} {g : Ev → Res} {t : Int} {s : Nat} (a : ∀ D, (e D)[s]? = some (some D.m)) (b : ∀ D D2, (e D).set s (some D2.m) = e D2) (c : DV g e (Is (.int t))) (d : 1 ≤ t) (h : t ≤ 1000) : DV (dCallI 3 d__law_take [.io s, .v g]) e (IsI fun i => 0 ≤ i ∧ i < t) := dv_tk a b c d (lg_small (by omega) (by omega))
theorem oskip' {t : Ev → Res} {a rest : Ev → Out} {env : Ev} (ht : YQ t env (.own (.fz (.bool false)))) : outR (dSeq (dIfS t a dNx) rest env) = outR (rest env) := by
  have : dIfS t a dNx env = dNx env := (out_if ht).trans (if_neg (by simp))
  unfold dSeq
  rw [this]
  rfl
/-! ### ef1 asked of the program -/
theorem flat_len {α β : Type} {f : α → List β} {b : Nat} : ∀ {l : List α}, (∀ x ∈ l, (f x).length ≤ b) → (l.flatMap f).length ≤ l.length * b
  | [], _ => by simp
  | a :: l, h => by
    have := flat_len (l := l) fun x hx => h x (List.mem_cons_of_mem _ hx)
    have := h a List.mem_cons_self
    rw [List.flatMap_cons, List.length_append, List.length_cons, Nat.succ_mul]
    omega
def prsD (n : Nat) : List PyData := (rngD 0 n).flatMap fun d => ((rngD 0 n).filter fun d1 => decide (unI d ≠ unI d1)).map fun d1 => .tuple [.int (unI d : Nat), .int (unI d1 : Nat)]
theorem prsD_mem {n : Nat} {d : PyData} (h : d ∈ prsD n) : ∃ i k : Nat, i < n ∧ k < n ∧ i ≠ k ∧ d = .tuple [.int (i : Nat), .int (k : Nat)] := by
  obtain ⟨a, ha, h⟩ := List.mem_flatMap.mp h
  obtain ⟨b, hb, rfl⟩ := List.mem_map.mp h
  obtain ⟨hb1, hne⟩ := List.mem_filter.mp hb
  obtain ⟨i, hi, rfl⟩ := rngD_mem ha
  obtain ⟨k, hk, rfl⟩ := rngD_mem hb1
  exact ⟨i, k, hi, hk, of_decide_eq_true hne, rfl⟩
theorem pairs_eq {n : Nat} (hn : n ≤ 6) : outR (d_pairs_of (startE 3 [.fz (.int (n : Nat))])) = .ret (.fz (.list (prsD n))) := by
  have e0 : startE 3 [.fz (.int (n : Nat))] = [nM n, none, none] := rfl
  rw [e0]
  unfold d_pairs_of
  have ln : (rngD 0 n).length = n := rngD_len n
  have lc := yq_lc2 (p := gNm 1) (src := dG kRng [dPk 0]) (t := dLit (.bool true)) (p1 := gNm 2) (src1 := dG kRng [dPk 0]) (t1 := dG (kPl oNe) [dPk 1, dPk 2]) (f := dTup [dTk 1, dTk 2]) (vs := [1, 2]) (vs1 := [2]) (env := [nM n, none, none]) [nM n, none, none] (fun _ => true) (fun _ => rngD 0 n) (fun d d1 => decide (unI d ≠ unI d1)) (fun d d1 => .fz (.tuple [.int (unI d : Nat), .int (unI d1 : Nat)])) (yq_rngN (n := n) (yq_pk (i := 0) rfl) (by omega)) (fun d hd => by
    obtain ⟨i, hi, rfl⟩ := rngD_mem hd
    refine ⟨[nM n, nM i, none], rfl, yq_lit, fun _ => ⟨yq_rngN (n := n) (yq_pk (i := 0) rfl) (by omega), rfl, fun d1 hd1 => ?_⟩, rfl⟩
    obtain ⟨k, hk, rfl⟩ := rngD_mem hd1
    exact ⟨[nM n, nM i, nM k], rfl, yq_neN (yq_pk (i := 1) rfl) (yq_pk (i := 2) rfl) rfl, fun _ => yq_Fn (ys_cons (yq_tk (i := 1) rfl) (ys_cons (yq_tk (i := 2) rfl) ys_nil)) rfl, rfl⟩) (by
    have z := flat_len (l := (rngD 0 n).filter fun _ => true) (f := fun d => ((rngD 0 n).filter fun d1 => decide (unI d ≠ unI d1)).map fun d1 => (.fz (.tuple [.int (unI d : Nat), .int (unI d1 : Nat)]) : M)) (b := n) fun x hx => by
      rw [List.length_map]
      exact Nat.le_trans (List.length_filter_le _ _) (by omega)
    have z2 := List.length_filter_le (fun _ => true) (rngD 0 n)
    have z3 := Nat.mul_le_mul_right n (Nat.le_trans z2 (Nat.le_of_eq ln))
    have z4 := Nat.mul_le_mul hn hn
    unfold SZ
    omega) rfl rfl rfl
  have e : ((rngD 0 n).filter fun _ => true).flatMap (fun d => ((rngD 0 n).filter fun d1 => decide (unI d ≠ unI d1)).map fun d1 => (.fz (.tuple [.int (unI d : Nat), .int (unI d1 : Nat)]) : M)) = (prsD n).map .fz := by
    unfold prsD
    rw [List.map_flatMap, List.filter_eq_self.mpr fun _ _ => rfl]
    congr 1
    funext d
    rw [List.map_map]
    rfl
  rw [e] at lc
  exact oret (yq_fr lc (frz_lst _))
section
variable {rn : List (List Nat)} {os : List Nat} {m : Nat}
theorem lacks_eq {i k : Nat} (hi : i < rn.length) (hk : k < rn.length) : outR (d_envy_lacks (startE 3 [.fz (tabT rn os), .fz (.int (i : Nat)), .fz (.int (k : Nat))])) = .ret (.fz (.int ((pw rn os i k : Nat) - (pw rn os i i : Nat) : Int))) := by
  have e0 : startE 3 [.fz (tabT rn os), .fz (.int (i : Nat)), .fz (.int (k : Nat))] = [some (.fz (tabT rn os)), nM i, nM k] := rfl
  rw [e0]
  unfold d_envy_lacks
  exact oret (yq_p2 (yq_T (yq_pk (i := 0) rfl) (yq_pk (i := 1) rfl) (yq_pk (i := 2) rfl) hi hk) (yq_T (yq_pk (i := 0) rfl) (yq_pk (i := 1) rfl) (yq_pk (i := 1) rfl) hi hi) rfl)
abbrev fE (rn : List (List Nat)) (os : List Nat) (x4 x5 : Option M) : Ev := [gM rn, tM os, some (.fz (tabT rn os)), some (.fz (.list (partsD (up os) rn.length os.length))), x4, x5, none]
theorem best_den (gr : GoodR rn m) (go : GoodO rn.length m os) {i k : Nat} (hi : i < rn.length) (hk : k < rn.length) : YQ (dG (kPl oMax) [dG kAdd [dLst [dLit (.int 0)], dLc (gNm 6) (dIt (dIx (dPk 3) (dPk 5))) (dLit (.bool true)) (dIx (dIx (dPk 0) (dPk 4)) (dPk 6)) [6]]]) (fE rn os (nM i) (nM k)) (.own (.fz (.int (bG rn os i k : Nat)))) := by
  have hl := go.len
  have m9 := gr.m9
  have bl := bun_len (rn := rn) (os := os) i k
  have lc := yq_lc0 (p := gNm 6) (src := dIt (dIx (dPk 3) (dPk 5))) (f := dIx (dIx (dPk 0) (dPk 4)) (dPk 6)) (vs := [6]) (env := fE rn os (nM i) (nM k)) (fE rn os (nM i) (nM k)) (fun d => .fz (.int (wv rn i (unI d) : Nat))) (yq_it (m := .fz (.tuple (natsD (gl os k)))) (yq_ix (yq_pk (i := 3) rfl) (yq_pk (i := 5) rfl) (ix_parts hk)) rfl rfl) (fun d hd => by
    obtain ⟨g, hg, rfl⟩ := List.mem_map.mp hd
    have hg := List.mem_range.mp (List.mem_filter.mp hg).1
    exact ⟨[gM rn, tM os, some (.fz (tabT rn os)), some (.fz (.list (partsD (up os) rn.length os.length))), nM i, nM k, nM g], rfl, yq_wv gr (yq_pk (i := 0) rfl) (yq_pk (i := 4) rfl) (yq_pk (i := 6) rfl) hi (show g < m by omega), rfl⟩)
  have el : (natsD (gl os k)).map (fun d => (.fz (.int (wv rn i (unI d) : Nat)) : M)) = (natsD (bun rn os i k)).map .fz := by
    unfold natsD bun
    rw [List.map_map, List.map_map, List.map_map]
    rfl
  rw [el] at lc
  have y1 : YQ (dLst [dLit (.int 0)]) (fE rn os (nM i) (nM k)) (.own (.lst ((natsD [0]).map .fz))) := yq_Fn (ys_cons yq_lit ys_nil) rfl
  exact yq_maxV (yq_addLL y1 lc (by simp) (by omega)) (frz_lst _) (mx_max _)
theorem ef1_none (gr : GoodR rn m) (go : GoodO rn.length m os) (h : ∀ i k, i < rn.length → k < rn.length → i ≠ k → pw rn os i k ≤ pw rn os i i + bG rn os i k) : outR (d_find_ef1 (startE 7 [.fz (gD rn), .fz (.tuple (natsD os))])) = .ret (.fz .none) := by
  have e0 : startE 7 [.fz (gD rn), .fz (.tuple (natsD os))] = [gM rn, tM os, none, none, none, none, none] := rfl
  rw [e0]
  unfold d_find_ef1
  have n6 := gr.n6
  rw [out_seq (out_par (ys_cons (yq_call2 (yq_pk (i := 0) rfl) (yq_pk (i := 1) rfl) (tab_eq (t := 0) gr go)) (ys_cons (yq_call2 (yq_lenG (yq_pk (i := 0) rfl)) (yq_pk (i := 1) rfl) (parts_eqN gr go)) ys_nil)) (by show 2 < 7; decide) (by show 3 < 7; decide))]
  obtain ⟨e2, h1, x4, x5, h2⟩ := runF_inv (p := gTp [gNm 4, gNm 5]) (b := dIfS (dG (kPl oGt) [dCall 3 d_envy_lacks [dPk 2, dPk 4, dPk 5], dG (kPl oMax) [dG kAdd [dLst [dLit (.int 0)], dLc (gNm 6) (dIt (dIx (dPk 3) (dPk 5))) (dLit (.bool true)) (dIx (dIx (dPk 0) (dPk 4)) (dPk 6)) [6]]]]) (dRet (dTup [dLit (.str "ef1"), dTk 4, dTk 5])) (dNx)) (fun env => ∃ x4 x5, env = fE rn os x4 x5) (ds := prsD rn.length) (env := fE rn os none none) (fun d hd env hI => by
    obtain ⟨x4, x5, rfl⟩ := hI
    obtain ⟨i, k, hi, hk, hik, rfl⟩ := prsD_mem hd
    have t := yq_gt (yq_call3 (yq_pk (i := 2) (env := fE rn os (nM i) (nM k)) rfl) (yq_pk (i := 4) rfl) (yq_pk (i := 5) rfl) (lacks_eq hi hk)) (best_den gr go hi hk)
    rw [decide_eq_false (by have := h i k hi hk hik; omega)] at t
    exact ⟨fE rn os (nM i) (nM k), fE rn os (nM i) (nM k), rfl, .inl ((out_ifF t rfl).trans rfl), nM i, nM k, rfl⟩) ⟨none, none, rfl⟩
  subst h2
  refine Eq.trans (congrArg outR (out_seq ((out_for (yq_it (m := .fz (.list (prsD rn.length))) (yq_call1 (yq_lenG (yq_pk (i := 0) rfl)) (pairs_eq n6)) rfl rfl)).trans h1))) ?_
  exact oret yq_lit
theorem few_eq (gr : GoodR rn m) (hs : rn.length ^ m ≤ 60000) : outR (d_check_few (startE 3 [.fz (gD rn)])) = .ret (.fz .none) := by
  have e0 : startE 3 [.fz (gD rn)] = [gM rn, none, none] := rfl
  rw [e0]
  unfold d_check_few
  have n1 := gr.n1
  have n6 := gr.n6
  have m9 := gr.m9
  refine Eq.trans (oset (m := .fz (.int ((rn.length ^ 0 : Nat) : Int))) yq_lit (by show 1 < 3; decide)) ?_
  obtain ⟨e2, h1, x2, h2⟩ := runF_ix (p := gNm 2) (b := dAug 1 (fun i j => if mulOk i j = true then some (i * j) else none) (dG (kLen) [dPk 0])) (fun k env => ∃ x2, env = [gM rn, nM (rn.length ^ k), x2]) (ds := natsD (rn.getD 0 [])) (k := 0) (env := [gM rn, nM (rn.length ^ 0), none]) (fun k d hd env hI => by
    obtain ⟨x2, rfl⟩ := hI
    rw [Nat.zero_add]
    have hk : k < m := by
      have := (List.getElem?_eq_some_iff.mp hd).1
      rwa [natsD_len, row_len gr (by omega)] at this
    have hp : rn.length ^ k ≤ 60000 := Nat.le_trans (Nat.pow_le_pow_right n1 (by omega)) hs
    refine ⟨[gM rn, nM (rn.length ^ k), some (.fz d)], [gM rn, nM (rn.length ^ (k + 1)), some (.fz d)], rfl, .inl (out_aug (i := 1) (a := ((rn.length ^ k : Nat) : Int)) (b := ((rn.length : Nat) : Int)) (c := ((rn.length ^ (k + 1) : Nat) : Int)) rfl (yq_lenG (yq_pk (i := 0) rfl)) ?_ (by show 1 < 3; decide)), some (.fz d), rfl⟩
    rw [if_pos (mulOkN (Nat.lt_of_le_of_lt hp (by decide)) (Nat.lt_of_le_of_lt n6 (by decide))), Nat.pow_succ]
    simp) ⟨none, rfl⟩
  rw [natsD_len, row_len gr (by omega), Nat.zero_add] at h2
  subst h2
  refine Eq.trans (congrArg outR (out_seq ((out_for (yq_it (m := .fz (.tuple (natsD (rn.getD 0 [])))) (yq_ix (i := ((0 : Nat) : Int)) (yq_pk (i := 0) rfl) yq_lit (ix_gD (by omega))) rfl rfl)).trans h1))) ?_
  exact (oifF (yq_gtN (b := 60000) (c := false) (yq_pk (i := 1) rfl) yq_lit (by simp; omega)) rfl).trans rfl
theorem holds_eq (gr : GoodR rn m) (go : GoodO rn.length m os) (hs : rn.length ^ m ≤ 60000) (h : ∀ i k, i < rn.length → k < rn.length → i ≠ k → pw rn os i k ≤ pw rn os i i + bG rn os i k) : outR (d_holds (startE 3 [.fz (gD rn), .fz (.tuple (natsD os)), .fz (.str "ef1")])) = .ret (.fz (.bool true)) := by
  have f1 : outR (d_found_objection (startE 3 [.fz (gD rn), .fz (.tuple (natsD os)), .fz (.str "ef1")])) = .ret (.fz .none) := by
    have e0 : startE 3 [.fz (gD rn), .fz (.tuple (natsD os)), .fz (.str "ef1")] = [gM rn, tM os, some (.fz (.str "ef1"))] := rfl
    rw [e0]
    unfold d_found_objection
    refine Eq.trans (oskip' (yq_p2 (yq_pk (i := 2) rfl) yq_lit rfl)) ?_
    have y : YQ (dCall 7 d_find_ef1 [dPk 0, dPk 1]) [gM rn, tM os, some (.fz (.str "ef1"))] (.own (.fz .none)) := yq_call2 (yq_pk (i := 0) rfl) (yq_pk (i := 1) rfl) (ef1_none gr go h)
    have e : dFnd 2 [("ef1", 7, d_find_ef1)] [dPk 0, dPk 1] [gM rn, tM os, some (.fz (.str "ef1"))] = dCall 7 d_find_ef1 [dPk 0, dPk 1] [gM rn, tM os, some (.fz (.str "ef1"))] := rfl
    exact oret (yq_fr (m := .fz .none) (by unfold YQ at y ⊢; rw [e]; exact y) rfl)
  have f2 : outR (d_objection (startE 3 [.fz (gD rn), .fz (.tuple (natsD os)), .fz (.str "ef1")])) = .ret (.fz .none) := by
    have e0 : startE 3 [.fz (gD rn), .fz (.tuple (natsD os)), .fz (.str "ef1")] = [gM rn, tM os, some (.fz (.str "ef1"))] := rfl
    rw [e0]
    unfold d_objection
    refine Eq.trans (oex (yq_call2 (yq_pk (i := 0) rfl) (yq_pk (i := 1) rfl) (by rw [cs_good gr (nats_nd os), fits_nats go]; rfl))) ?_
    refine Eq.trans (oex (yq_call1 (r := .none) (yq_pk (i := 2) rfl) rfl)) ?_
    refine Eq.trans (oex (yq_call1 (yq_pk (i := 0) rfl) (few_eq gr hs))) ?_
    exact oret (yq_call3 (yq_pk (i := 0) rfl) (yq_pk (i := 1) rfl) (yq_pk (i := 2) rfl) f1)
  have e0 : startE 3 [.fz (gD rn), .fz (.tuple (natsD os)), .fz (.str "ef1")] = [gM rn, tM os, some (.fz (.str "ef1"))] := rfl
  rw [e0]
  unfold d_holds
  exact oret (yq_isNoneD (yq_call3 (yq_pk (i := 0) rfl) (yq_pk (i := 1) rfl) (yq_pk (i := 2) rfl) f2) rfl)
end
/-! ### an order drawn -/
abbrev oE (n : Nat) (L F : List Nat) (D : Dr) : Ev := [some D.m, nM n, oM L, oM F, none]
theorem order_run {n : Nat} : ∀ (j : Nat) {L F : List Nat} {D : Dr}, L.length = j → j ≤ 6 → F.length + j ≤ 100 → Dr.Ok D → ∃ k D2 F2, Dr.Ok D2 ∧ F2.Perm (F ++ L) ∧ runW (dG (kPl oNe) [dPk 2, dLst []]) (dEx (dApp 3 (dPop 2 (dCallI 3 d__law_take [.io 0, .v (dG (kLen) [dPk 2])])))) k (oE n L F D) = .nx (oE n [] F2 D2)
  | 0, L, F, D, h, _, _, ok => by
    have : L = [] := List.length_eq_zero_iff.mp h
    subst this
    have t := ne_nilV (l := []) (yq_vw (i := 2) (ms := (natsD []).map .fz) (env := oE n [] F D) rfl) (vw_valD [])
    exact ⟨1, D, F, ok, by simp, runW_F t⟩
  | j + 1, L, F, D, h, hj, hF, ok => by
    have t := ne_nilV (l := L) (yq_vw (i := 2) (ms := (natsD L).map .fz) (env := oE n L F D) rfl) (vw_valD L)
    have ne : L ≠ [] := fun z => by rw [z] at h; cases h
    rw [decide_eq_false ne] at t
    have dv := tkL (e := fun D => oE n L F D) (g := dG (kLen) [dPk 2]) (t := (L.length : Nat)) (s := 0) (fun _ => rfl) (fun _ _ => rfl) (dv_q fun _ _ => yq_len (n := L.length) (yq_vw (i := 2) (ms := (natsD L).map .fz) rfl) (by simp [lenV, natsD_len])) (by omega) (by omega)
    obtain ⟨q, d2, D2, ok2, hq, hd2, hr⟩ := app_pop (s := 2) (z := 3) (ms := (natsD L).map .fz) (ns := (natsD F).map .fz) dv (fun _ => rfl) (fun _ => rfl) (by rw [List.length_map, natsD_len]; unfold SZ; omega) (by decide) (fun i hi => by
      refine ⟨i.toNat, .int (L.getD i.toNat 0 : Nat), by omega, by rw [List.length_map, natsD_len]; omega, by rw [List.length_map, natsD_len]; omega, nats_get (by omega)⟩) ok
    rw [List.length_map, natsD_len] at hq
    rw [nats_get hq] at hd2
    obtain rfl : PyData.int (L.getD q 0 : Nat) = d2 := by
      have := Option.some.inj hd2
      injection this
    rw [nats_snoc] at hr
    have ee : ((natsD L).map M.fz).eraseIdx q = (natsD (L.eraseIdx q)).map .fz := by
      unfold natsD
      rw [erase_map, erase_map]
    rw [ee] at hr
    have el : (L.eraseIdx q).length = j := by rw [List.length_eraseIdx_of_lt hq]; omega
    obtain ⟨k, D3, F3, ok3, hp, hk⟩ := order_run j (L := L.eraseIdx q) (F := F ++ [L.getD q 0]) el (by omega) (by rw [List.length_append, List.length_singleton]; omega) ok2
    refine ⟨k + 1, D3, F3, ok3, hp.trans ?_, (runW_T t hr).trans hk⟩
    have eg : L.getD q 0 = L[q] := by simp [hq]
    rw [eg, List.append_assoc]
    exact (erase_perm L q hq).append_left F
theorem order_den {n : Nat} (n1 : 1 ≤ n) (n6 : n ≤ 6) {D : Dr} (ok : Dr.Ok D) : RO 0 d__law_order (startE 5 [D.m, .fz (.int (n : Nat))]) fun mm => ∃ od : List Nat, od.Perm (List.range n) ∧ mm = .fz (.tuple (natsD od)) := by
  have e0 : startE 5 [D.m, .fz (.int (n : Nat))] = [some D.m, nM n, none, none, none] := rfl
  rw [e0]
  unfold d__law_order
  have lc := yq_lc0 (p := gNm 4) (src := dG kRng [dPk 1]) (f := dTk 4) (vs := [4]) (env := [some D.m, nM n, none, none, none]) [some D.m, nM n, none, none, none] M.fz (yq_rngN (n := n) (yq_pk (i := 1) rfl) (by omega)) (fun d hd => ⟨[some D.m, nM n, none, none, some (.fz d)], rfl, yq_tk (i := 4) rfl, rfl⟩)
  have e1 : (rngD 0 n).map M.fz = (natsD (List.range n)).map .fz := by rw [rngD_ints]; rfl
  rw [e1] at lc
  refine ro_st (out_set lc (by show 2 < 5; decide)) ?_
  refine ro_st (env2 := oE n (List.range n) [] D) (out_set (m := .lst []) (yq_Fn ys_nil rfl) (by show 3 < 5; decide)) ?_
  obtain ⟨k, D2, F2, ok2, hp, hr⟩ := order_run (n := n) n (L := List.range n) (F := []) (by simp) n6 (by simp; omega) ok
  refine ro_st (dWhile_of hr (by simp)) ?_
  exact do_ret (e := fun D => oE n [] F2 D) ok2 (dv_own (fun _ _ => yq_tupOf (ds := natsD F2) (yq_vw (i := 3) (ms := (natsD F2).map .fz) rfl) (seqv_vw _)) ⟨F2, by simpa using hp, rfl⟩) fun _ => rfl
end Q

set_option Elab.async false
set_option linter.all false
set_option maxRecDepth 100000
set_option maxHeartbeats 8000000
set_option exponentiation.threshold 1000
/-! The law. -/
namespace Q
open PySem PySem.Spec PyProof.Rows L2
section
variable {O : List (Option Nat)}
def leftK (O : List (Option Nat)) (k : Nat) : List Nat := (List.range k).filter fun g => decide (O.getD g none = none)
theorem leftK_succ (k : Nat) : leftK O (k + 1) = if O.getD k none = none then leftK O k ++ [k] else leftK O k := by
  unfold leftK
  rw [List.range_succ, List.filter_append]
  by_cases h : O.getD k none = none
  · rw [if_pos h]
    congr 1
    simp only [List.filter_cons, List.filter_nil, decide_eq_true h, if_true]
  · rw [if_neg h]
    simp only [List.filter_cons, List.filter_nil, decide_eq_false h, Bool.false_eq_true, if_false, List.append_nil]
theorem bestO_mem {c : Nat → Nat} {l : List Nat} {x : Nat} (pw : l.Pairwise (· < ·)) (h : bestO c l = some x) : x ∈ l := by
  by_cases ne : l = []
  · subst ne; cases h
  · obtain ⟨b, e, hb, _⟩ := bestO_spec c _ l rfl pw ne
    rw [e] at h
    cases h
    exact hb
end
theorem out_forK {p : Tg} {b : Ev → Out} {env : Ev} {s : Nat} {ds : List PyData} (hs : env[s]? = some (some (.lst (ds.map M.fz)))) : dFor p (dIt (dTk s)) b env = runF p b ds (env.set s (some (.fz (.list ds)))) := by
  have h1 : dTk s env = .ok (.own (.fz (.list ds))) (env.set s (some (.fz (.list ds)))) .q := by
    unfold dTk
    simp only [hs, frz_lst]
  have h2 : dFr (dTk s) env = .ok (.own (.fz (.list ds))) (env.set s (some (.fz (.list ds)))) .q := by
    unfold dFr
    rw [h1]
    rfl
  unfold dFor dIt
  rw [h2]
  rfl
theorem osetx {x : Exn} {i : Nat} {f : Ev → Res} {rest : Ev → Out} {env e : Ev} (h : f env = .exn x e) : outR (dSeq (dSet i f) rest env) = .exn x := by
  unfold dSeq dSet
  rw [h]
  rfl
theorem try_x2 {b r : Ev → Out} {env : Ev} (h : outR (b env) = .exn mal) : outR (dSeq (dTry b [([("Malformed", true), ("Refused", false)], dRet (dLit (.bool true)))]) r env) = .ret (.fz (.bool true)) := by
  cases e : b env with
  | exn c e1 =>
    rw [e] at h
    cases h
    unfold dSeq dTry
    simp only [e]
    rfl
  | nx e1 => rw [e] at h; cases h
  | ret m e1 => rw [e] at h; cases h
  | brk e1 => rw [e] at h; cases h
  | ct e1 => rw [e] at h; cases h
  | stuck => rw [e] at h; cases h
/-! ### who raises -/
section
variable {rn : List (List Nat)} {od : List Nat} {m : Nat}
def RX2 (one two : PyData) : Prop := outR (d_round_robin (startE 8 [.fz one, .fz two])) = .exn mal
theorem rx_game {one two : PyData} (hg : noDict one = true) (h : isGame one = false) : RX2 one two := by
  show outR (d_round_robin [some (.fz one), some (.fz two), none, none, none, none, none, none]) = _
  unfold d_round_robin
  exact oexx (xcall (y1 (yq_pk (i := 0) rfl)) rfl (by rw [check_eq hg, h]; rfl))
theorem rx_ord (gr : GoodR rn m) {v : PyData} (h : outR (d_is_order (startE 3 [.fz v, .fz (.int (rn.length : Nat))])) = .ret (.fz (.bool false))) : RX2 (gD rn) v := by
  show outR (d_round_robin [gM rn, some (.fz v), none, none, none, none, none, none]) = _
  unfold d_round_robin
  refine Eq.trans (oex (yq_call1 (yq_pk (i := 0) rfl) (by rw [check_eq (gD_nd gr), gD_game gr]; rfl))) ?_
  have t := yq_not (yq_tru (c := false) (yq_call2 (yq_pk (i := 1) (env := [gM rn, some (.fz v), none, none, none, none, none, none]) rfl) (yq_lenG (yq_pk (i := 0) rfl)) h) rfl)
  have r := (out_ifT (a := dRaise "Malformed") (b := dNx) t rfl).trans rfl
  unfold dSeq
  rw [r]
  rfl
theorem raises_eq {k : Nat} {one two : PyData} (h : RX2 one two) : outR (d__law_raises (startE 3 [.fz (.int (k : Nat)), .fz one, .fz two])) = .ret (.fz (.bool true)) := by
  have e0 : startE 3 [.fz (.int (k : Nat)), .fz one, .fz two] = [nM k, some (.fz one), some (.fz two)] := rfl
  rw [e0]
  unfold d__law_raises
  have h2 : outR (d_round_picks (startE 8 [.fz one, .fz two])) = .exn mal := by
    show outR (d_round_picks [some (.fz one), some (.fz two), none, none, none, none, none, none]) = _
    unfold d_round_picks
    exact osetx (xcall (y2 (yq_pk (i := 0) rfl) (yq_pk (i := 1) rfl)) rfl h)
  refine try_x2 ?_
  have t := yq_eqN (b := 0) (c := decide (k = 0)) (yq_pk (i := 0) (env := [nM k, some (.fz one), some (.fz two)]) rfl) yq_litN rfl
  by_cases h0 : k = 0
  · refine Eq.trans (oifT t (by simp [h0])) ?_
    exact oexl (xcall (y2 (yq_pk (i := 1) rfl) (yq_pk (i := 2) rfl)) rfl h)
  · refine Eq.trans (oifF t (by simp [h0])) ?_
    exact oexl (xcall (y2 (yq_pk (i := 1) rfl) (yq_pk (i := 2) rfl)) rfl h2)
abbrev cutO (od : List Nat) : List PyData := cutD (natsD od) none (some (-1))
def badL (rn : List (List Nat)) (od : List Nat) : List PyData := [.tuple [.none, .tuple (natsD od)], .tuple [gD rn, .none], .tuple [gD rn, .tuple (natsD od ++ [.int 0])], .tuple [gD rn, .tuple (cutO od)], .tuple [gD rn, .list (natsD od)], .tuple [gD rn, .tuple (natsD (List.replicate od.length 0) ++ [.int 0])], .tuple [.tuple [], .tuple []], .tuple [gD rn, .tuple (cutO od ++ [.int (rn.length : Nat)])]]
theorem cutO_eq (h : 1 ≤ od.length) : cutO od = natsD (od.take (od.length - 1)) := by
  unfold cutO cutD
  have h1 : HT.sIx (natsD od).length (natsD od).length (some (-1)) = od.length - 1 := by
    unfold HT.sIx
    rw [natsD_len]
    simp
    omega
  have h0 : HT.sIx (natsD od).length 0 none = 0 := rfl
  rw [h1]
  show ((natsD od).drop 0).take _ = _
  rw [List.drop_zero]
  unfold natsD
  rw [List.map_take]
  rfl
theorem badL_x (gr : GoodR rn m) (hp : od.Perm (List.range rn.length)) : ∀ d ∈ badL rn od, ∃ one two, d = .tuple [one, two] ∧ RX2 one two := by
  have n1 := gr.n1
  have n6 := gr.n6
  have ol : od.length = rn.length := by rw [hp.length_eq, List.length_range]
  intro d hd
  unfold badL at hd
  rw [cutO_eq (by omega)] at hd
  simp only [List.mem_cons, List.not_mem_nil, or_false] at hd
  rcases hd with rfl | rfl | rfl | rfl | rfl | rfl | rfl | rfl
  · exact ⟨_, _, rfl, rx_game rfl rfl⟩
  · exact ⟨_, _, rfl, rx_ord gr (ord_a rfl rfl)⟩
  · refine ⟨_, _, rfl, rx_ord gr ?_⟩
    have e : natsD od ++ [PyData.int 0] = ((od.map fun x : Nat => (x : Int)) ++ [0]).map .int := by rw [natsD_ints, List.map_append]; rfl
    rw [e]
    exact ord_no (by omega) fun h => by simp at h; omega
  · refine ⟨_, _, rfl, rx_ord gr ?_⟩
    rw [natsD_ints]
    exact ord_no (by omega) fun h => by simp at h; omega
  · exact ⟨_, _, rfl, rx_ord gr (ord_a (noDict_lst (nd_nats od)) rfl)⟩
  · refine ⟨_, _, rfl, rx_ord gr ?_⟩
    have e : natsD (List.replicate od.length 0) ++ [PyData.int 0] = (((List.replicate od.length 0).map fun x : Nat => (x : Int)) ++ [0]).map .int := by rw [natsD_ints, List.map_append]; rfl
    rw [e]
    exact ord_no (by omega) fun h => by simp at h; omega
  · exact ⟨_, _, rfl, rx_game rfl rfl⟩
  · refine ⟨_, _, rfl, rx_ord gr ?_⟩
    have e : natsD (od.take (od.length - 1)) ++ [PyData.int (rn.length : Nat)] = (((od.take (od.length - 1)).map fun x : Nat => (x : Int)) ++ [(rn.length : Int)]).map .int := by rw [natsD_ints, List.map_append]; rfl
    rw [e]
    exact ord_no (by omega) fun _ => ⟨(rn.length : Int), by simp, .inr (Int.le_refl _)⟩
end
/-! ### the law's picks -/
def oB (O : List (Option Nat)) : List PyData := O.map fun o => .bool (decide (o = none))
theorem oB_len (O : List (Option Nat)) : (oB O).length = O.length := by simp [oB]
theorem oB_ix {O : List (Option Nat)} {g : Nat} (h : g < O.length) : ixV (.vw (.lst ((oB O).map .fz))) (g : Int) = some (.own (.fz (.bool (decide (O.getD g none = none))))) := by
  simp only [ixV, atI, List.length_map, oB_len, ixN_of h, Option.bind_some]
  simp [oB, h, mkVw]
theorem oB_set {O : List (Option Nat)} {g i : Nat} : ((oB O).map M.fz).set g (.fz (.bool false)) = (oB (O.set g (some i))).map .fz := by
  unfold oB
  rw [List.map_set, List.map_set]
  rfl
def bI : Option Nat → Int
  | none => -1
  | some b => (b : Nat)
abbrev lE (sc : Option M) (rn : List (List Nat)) (od : List Nat) (m : Nat) (x5 p6 x7 : Option M) (o8 : Option PyData) (x9 : Option M) (o10 : Option PyData) (x11 x12 x13 x14 x15 x16 x17 : Option M) (D : Dr) : Ev := [sc, some D.m, gM rn, tM od, nM m, x5, p6, x7, fzO o8, x9, fzO o10, x11, x12, x13, x14, x15, x16, x17]
abbrev fB (O : List (Option Nat)) : Option M := some (.lst ((oB O).map .fz))
section
variable {rn : List (List Nat)} {od ts : List Nat} {m t : Nat} {O : List (Option Nat)} {sc x5 p6 x7 x9 x11 x12 x13 x14 x15 x16 x17 : Option M} {o8 o10 : Option PyData} {D : Dr}
abbrev ltB : Ev → Res := dG (kPl oGt) [dIx (dIx (dPk 2) (dPk 8)) (dPk 10), dIx (dIx (dPk 2) (dPk 8)) (dPk 9)]
abbrev tsB : Ev → Res := dIf (dG (kPl oLt) [dPk 9, dLit (.int 0)]) (dLit (.bool true)) ltB
abbrev bodyB : Ev → Out := dIfS (dIf (dTru (dIx (dPk 5) (dPk 10))) tsB (dLit (.bool false))) (dSet 9 (dTk 10)) (dNx)
theorem inB (gr : GoodR rn m) {i : Nat} (hi : i < rn.length) (hO : O.length = m) : ∃ o10', dFor (gNm 10) (dG kRng [dPk 4]) bodyB (lE sc rn od m (fB O) p6 x7 (some (.int (i : Nat))) (some (.fz (.int (bI none)))) o10 x11 x12 x13 x14 x15 x16 x17 D) = .nx (lE sc rn od m (fB O) p6 x7 (some (.int (i : Nat))) (some (.fz (.int (bI (bestO (ck rn i) (leftO O)))))) o10' x11 x12 x13 x14 x15 x16 x17 D) := by
  have m9 := gr.m9
  obtain ⟨e2, h1, o10', h2⟩ := runF_ix (p := gNm 10) (b := bodyB) (fun k env => ∃ o10, env = lE sc rn od m (fB O) p6 x7 (some (.int (i : Nat))) (some (.fz (.int (bI (bestO (ck rn i) (leftK O k)))))) o10 x11 x12 x13 x14 x15 x16 x17 D) (ds := rngD 0 m) (k := 0) (env := lE sc rn od m (fB O) p6 x7 (some (.int (i : Nat))) (some (.fz (.int (bI none)))) o10 x11 x12 x13 x14 x15 x16 x17 D) (fun k d hd env => by
    rintro ⟨o10, rfl⟩
    have hk : k < m := by
      have := (List.getElem?_eq_some_iff.mp hd).1
      rwa [rngD_len] at this
    have ed : d = .int (k : Nat) := by
      rw [rngD_ints] at hd
      simp [hk] at hd
      exact hd.symm
    subst ed
    rw [Nat.zero_add, leftK_succ]
    have hsorted : (leftK O k).Pairwise (· < ·) := List.Pairwise.filter _ List.pairwise_lt_range
    have hlt : ∀ x ∈ leftK O k, x < m := fun x hx => by
      have := List.mem_range.mp (List.mem_filter.mp hx).1
      omega
    have hmem := fun x => bestO_mem (c := ck rn i) (x := x) hsorted
    have t1 := yq_tru (yq_ix (yq_vw (i := 5) (ms := (oB O).map .fz) (env := lE sc rn od m (fB O) p6 x7 (some (.int (i : Nat))) (some (.fz (.int (bI (bestO (ck rn i) (leftK O k)))))) (some (.int (k : Nat))) x11 x12 x13 x14 x15 x16 x17 D) rfl) (yq_pk (i := 10) rfl) (oB_ix (by omega))) rfl
    have t2 := yq_lt (j := 0) (yq_pk (i := 9) (d := .int (bI (bestO (ck rn i) (leftK O k)))) (env := lE sc rn od m (fB O) p6 x7 (some (.int (i : Nat))) (some (.fz (.int (bI (bestO (ck rn i) (leftK O k)))))) (some (.int (k : Nat))) x11 x12 x13 x14 x15 x16 x17 D) rfl) yq_lit
    by_cases h : O.getD k none = none
    · rw [if_pos h, bestO_snoc]
      rw [decide_eq_true h] at t1
      generalize bestO (ck rn i) (leftK O k) = b at *
      cases b with
      | none =>
        have t := yq_andT (g := tsB) t1 fun _ => yq_orT (a := true) (g := ltB) (b := false) t2 fun z => by cases z
        exact ⟨lE sc rn od m (fB O) p6 x7 (some (.int (i : Nat))) (some (.fz (.int (bI none)))) (some (.int (k : Nat))) x11 x12 x13 x14 x15 x16 x17 D, lE sc rn od m (fB O) p6 x7 (some (.int (i : Nat))) (some (.fz (.int (bI (some k))))) (some (.int (k : Nat))) x11 x12 x13 x14 x15 x16 x17 D, rfl, .inl ((out_ifT t rfl).trans (out_set (yq_tk (i := 10) rfl) (by show 9 < 18; decide))), _, rfl⟩
      | some x =>
        have hx := hlt x (hmem x rfl)
        have e2 : decide (bI (some x) < 0) = false := decide_eq_false (by show ¬ ((x : Nat) : Int) < 0; omega)
        rw [e2] at t2
        have t := yq_andT t1 fun _ => yq_orT t2 fun _ => yq_gtN (yq_wv gr (yq_pk (i := 2) rfl) (yq_pk (i := 8) rfl) (yq_pk (i := 10) rfl) hi hk) (yq_wv gr (yq_pk (i := 2) rfl) (yq_pk (i := 8) rfl) (yq_pk (i := 9) (d := .int (x : Nat)) rfl) hi hx) rfl
        have hcx := ck_lt gr hi hk hx
        by_cases hc : wv rn i x < wv rn i k
        · refine ⟨lE sc rn od m (fB O) p6 x7 (some (.int (i : Nat))) (some (.fz (.int (bI (some x))))) (some (.int (k : Nat))) x11 x12 x13 x14 x15 x16 x17 D, lE sc rn od m (fB O) p6 x7 (some (.int (i : Nat))) (some (.fz (.int (bI (some k))))) (some (.int (k : Nat))) x11 x12 x13 x14 x15 x16 x17 D, rfl, .inl ((out_ifT t (by simp [hc])).trans (out_set (yq_tk (i := 10) rfl) (by show 9 < 18; decide))), some (.int (k : Nat)), ?_⟩
          show _ = lE sc rn od m (fB O) p6 x7 (some (.int (i : Nat))) (some (.fz (.int (bI (if ck rn i k < ck rn i x then some k else some x))))) (some (.int (k : Nat))) x11 x12 x13 x14 x15 x16 x17 D
          rw [if_pos (hcx.mpr hc)]
        · refine ⟨lE sc rn od m (fB O) p6 x7 (some (.int (i : Nat))) (some (.fz (.int (bI (some x))))) (some (.int (k : Nat))) x11 x12 x13 x14 x15 x16 x17 D, lE sc rn od m (fB O) p6 x7 (some (.int (i : Nat))) (some (.fz (.int (bI (some x))))) (some (.int (k : Nat))) x11 x12 x13 x14 x15 x16 x17 D, rfl, .inl ((out_ifF t (by simp [hc])).trans rfl), some (.int (k : Nat)), ?_⟩
          show _ = lE sc rn od m (fB O) p6 x7 (some (.int (i : Nat))) (some (.fz (.int (bI (if ck rn i k < ck rn i x then some k else some x))))) (some (.int (k : Nat))) x11 x12 x13 x14 x15 x16 x17 D
          rw [if_neg fun z => hc (hcx.mp z)]
    · rw [if_neg h]
      rw [decide_eq_false h] at t1
      have t := yq_andT (g := tsB) (b := false) t1 fun z => by cases z
      exact ⟨lE sc rn od m (fB O) p6 x7 (some (.int (i : Nat))) (some (.fz (.int (bI (bestO (ck rn i) (leftK O k)))))) (some (.int (k : Nat))) x11 x12 x13 x14 x15 x16 x17 D, lE sc rn od m (fB O) p6 x7 (some (.int (i : Nat))) (some (.fz (.int (bI (bestO (ck rn i) (leftK O k)))))) (some (.int (k : Nat))) x11 x12 x13 x14 x15 x16 x17 D, rfl, .inl ((out_ifF t rfl).trans rfl), _, rfl⟩) ⟨o10, rfl⟩
  rw [rngD_len, Nat.zero_add] at h2
  have e : leftK O m = leftO O := by unfold leftK leftO; rw [hO]
  rw [e] at h2
  subst h2
  exact ⟨o10', (out_for (yq_rngN (n := m) (yq_pk (i := 4) rfl) (by omega))).trans h1⟩
end
/-! ### the turns of the law -/
section
variable {rn : List (List Nat)} {od os : List Nat} {m : Nat} {sc : Option M} {D : Dr}
abbrev trnB : Ev → Out := (dSeq (dSet 8 (dFr (dIx (dPk 3) (dG (kPl oMod) [dG (kPl oInt) [dPk 7], dG (kLen) [dPk 3]]))))
    (dSeq (dSet 9 (dOp oNeg [dLit (.int 1)]))
    (dSeq (dFor (gNm 10) (dG kRng [dPk 4]) bodyB)
    (dSeq (dAsg (gPut 5 (dPk 9)) (dLit (.bool false)))
    (dEx (dApp 6 (dTup [dTk 8, dTk 9])))))))
abbrev pM (P : List (Nat × Nat)) : Option M := some (.lst ((prD P).map .fz))
theorem trn_run (gr : GoodR rn m) (hp : od.Perm (List.range rn.length)) : ∃ x7 o8 x9 o10, dFor (gNm 7) (dG kRng [dPk 4]) trnB (lE sc rn od m (fB (pkO rn (rrT od m) m 0)) (pM (pks rn (rrT od m) m 0)) none none none none none none none none none none none D) = .nx (lE sc rn od m (fB (pkO rn (rrT od m) m m)) (pM (pks rn (rrT od m) m m)) x7 o8 x9 o10 none none none none none none none D) := by
  have n1 := gr.n1
  have m9 := gr.m9
  have ol : od.length = rn.length := by rw [hp.length_eq, List.length_range]
  obtain ⟨e2, h1, x7, o8, x9, o10, h2⟩ := runF_ix (p := gNm 7) (b := trnB) (fun k env => ∃ x7 o8 x9 o10, env = lE sc rn od m (fB (pkO rn (rrT od m) m k)) (pM (pks rn (rrT od m) m k)) x7 o8 x9 o10 none none none none none none none D) (ds := rngD 0 m) (k := 0) (env := lE sc rn od m (fB (pkO rn (rrT od m) m 0)) (pM (pks rn (rrT od m) m 0)) none none none none none none none none none none none D) (fun t d hd env => by
    rintro ⟨x7, o8, x9, o10, rfl⟩
    have ht : t < m := by
      have := (List.getElem?_eq_some_iff.mp hd).1
      rwa [rngD_len] at this
    have ed : d = .int (t : Nat) := by
      rw [rngD_ints] at hd
      simp [ht] at hd
      exact hd.symm
    subst ed
    rw [Nat.zero_add]
    have hg := rrT_get (od := od) ht
    have hi : od.getD (t % od.length) 0 < rn.length := List.mem_range.mp (hp.mem_iff.mp (get_mem (Nat.mod_lt _ (by omega))))
    obtain ⟨b, eb, hb, hm⟩ := best_left (ck rn ((rrT od m).getD t 0)) (pk_ne (rows := rn) (ts := rrT od m) ht)
    have ebst : bst rn (rrT od m) m t = b := by unfold bst; rw [eb]; rfl
    have sn := pks_snoc (rn := rn) (ts := rrT od m) (m := m) t
    have pl := pks_len (rn := rn) (ts := rrT od m) (m := m) t
    rw [pk_step]
    rw [ebst] at sn ⊢
    rw [hg] at sn eb ⊢
    have hO := pkO_len (rows := rn) (ts := rrT od m) (m := m) t
    have hbm := (left_mem.mp hb).1
    clear ebst hm
    generalize pkO rn (rrT od m) m t = O at *
    have s8 : dSet 8 (dFr (dIx (dPk 3) (dG (kPl oMod) [dG (kPl oInt) [dPk 7], dG (kLen) [dPk 3]]))) (lE sc rn od m (fB O) (pM (pks rn (rrT od m) m t)) (nM t) o8 x9 o10 none none none none none none none D) = .nx (lE sc rn od m (fB O) (pM (pks rn (rrT od m) m t)) (nM t) (some (.int (od.getD (t % od.length) 0 : Nat))) x9 o10 none none none none none none none D) :=
      out_set (yq_fr (m := .fz (.int (od.getD (t % od.length) 0 : Nat))) (yq_ix (yq_pk (i := 3) rfl) (yq_modN (yq_int (yq_pk (i := 7) rfl)) (yq_len (n := od.length) (yq_pk (i := 3) (d := .tuple (natsD od)) rfl) (by simp only [lenV, natsD_len])) (by omega)) (ix_tupN (Nat.mod_lt _ (by omega)))) rfl) (by show 8 < 18; decide)
    generalize od.getD (t % od.length) 0 = i at *
    have s9 : dSet 9 (dOp oNeg [dLit (.int 1)]) (lE sc rn od m (fB O) (pM (pks rn (rrT od m) m t)) (nM t) (some (.int (i : Nat))) x9 o10 none none none none none none none D) = .nx (lE sc rn od m (fB O) (pM (pks rn (rrT od m) m t)) (nM t) (some (.int (i : Nat))) (some (.fz (.int (bI none)))) o10 none none none none none none none D) := out_set (yq_neg yq_lit) (by show 9 < 18; decide)
    obtain ⟨o10', hin⟩ := inB (sc := sc) (od := od) (p6 := pM (pks rn (rrT od m) m t)) (x7 := nM t) (o10 := o10) (x11 := none) (x12 := none) (x13 := none) (x14 := none) (x15 := none) (x16 := none) (x17 := none) (D := D) gr hi hO
    rw [eb] at hin
    refine ⟨lE sc rn od m (fB O) (pM (pks rn (rrT od m) m t)) (nM t) o8 x9 o10 none none none none none none none D, lE sc rn od m (fB (O.set b (some i))) (pM (pks rn (rrT od m) m (t + 1))) (nM t) (some (.int (i : Nat))) (some (.fz (.int (b : Nat)))) o10' none none none none none none none D, rfl, .inl ?_, _, _, _, _, rfl⟩
    refine (out_seq s8).trans ((out_seq s9).trans ((out_seq hin).trans ?_))
    refine (out_seq (out_put (s := 5) (k := (b : Nat)) (j := b) (ms := (oB O).map .fz) (d := .bool false) yq_lit (yq_pk (i := 9) (d := .int (b : Nat)) rfl) rfl (by rw [List.length_map, oB_len]; exact ixN_of hbm))).trans ?_
    rw [oB_set (i := i)]
    have z := out_app (s := 6) (env := lE sc rn od m (fB (O.set b (some i))) (pM (pks rn (rrT od m) m t)) (nM t) (some (.int (i : Nat))) (some (.fz (.int (b : Nat)))) o10' none none none none none none none D) (ms := (prD (pks rn (rrT od m) m t)).map .fz) (d := .tuple [.int (i : Nat), .int (b : Nat)]) (f := dTup [dTk 8, dTk 9]) rfl (yq_Fn (ys_cons (yq_tk (i := 8) rfl) (ys_cons (yq_tk (i := 9) rfl) ys_nil)) rfl) (by rw [List.length_map, pl]; unfold SZ; omega)
    rw [sn] at z
    exact z) ⟨none, none, none, none, rfl⟩
  rw [rngD_len, Nat.zero_add] at h2
  subst h2
  exact ⟨x7, o8, x9, o10, (out_for (yq_rngN (n := m) (yq_pk (i := 4) rfl) (by omega))).trans h1⟩
/-! ### the owners of the law -/
theorem own_run (gr : GoodR rn m) {x5 x7 x9 : Option M} {o8 o10 : Option PyData} : ∃ o8' o10', dFor (gTp [gNm 8, gNm 10]) (dIt (dTk 6)) (dAsg (gPut 11 (dPk 10)) (dTk 8)) (lE sc rn od m x5 (pM (pks rn (rrT od m) m m)) x7 o8 x9 o10 (oM (gd (pkO rn (rrT od m) m 0))) none none none none none none D) = .nx (lE sc rn od m x5 (some (.fz (.list (prD (pks rn (rrT od m) m m))))) x7 o8' x9 o10' (oM (pkL rn (rrT od m) m)) none none none none none none D) := by
  have m9 := gr.m9
  obtain ⟨e2, h1, o8', o10', h2⟩ := runF_ix (p := gTp [gNm 8, gNm 10]) (b := dAsg (gPut 11 (dPk 10)) (dTk 8)) (fun k env => ∃ o8 o10, env = lE sc rn od m x5 (some (.fz (.list (prD (pks rn (rrT od m) m m))))) x7 o8 x9 o10 (oM (gd (pkO rn (rrT od m) m k))) none none none none none none D) (ds := prD (pks rn (rrT od m) m m)) (k := 0) (env := lE sc rn od m x5 (some (.fz (.list (prD (pks rn (rrT od m) m m))))) x7 o8 x9 o10 (oM (gd (pkO rn (rrT od m) m 0))) none none none none none none D) (fun t d hd env => by
    rintro ⟨o8, o10, rfl⟩
    rw [Nat.zero_add]
    have ht : t < m := by
      have := (List.getElem?_eq_some_iff.mp hd).1
      rwa [pks_len] at this
    have ed : d = .tuple [.int ((rrT od m).getD t 0 : Nat), .int (bst rn (rrT od m) m t : Nat)] := by
      simp [prD, pks, ht] at hd
      simp [← hd]
    subst ed
    obtain ⟨hb, _⟩ := bst_ok (rn := rn) (ts := rrT od m) ht
    have hO := pkO_len (rows := rn) (ts := rrT od m) (m := m) t
    rw [pk_step]
    generalize (rrT od m).getD t 0 = i at *
    generalize bst rn (rrT od m) m t = b at *
    have hbm := (left_mem.mp hb).1
    generalize pkO rn (rrT od m) m t = O at *
    generalize prD (pks rn (rrT od m) m m) = P at *
    refine ⟨lE sc rn od m x5 (some (.fz (.list P))) x7 (some (.int (i : Nat))) x9 (some (.int (b : Nat))) (oM (gd O)) none none none none none none D, lE sc rn od m x5 (some (.fz (.list P))) x7 (some (.int (i : Nat))) x9 (some (.int (b : Nat))) (oM (gd (O.set b (some i)))) none none none none none none D, rfl, .inl ?_, _, _, rfl⟩
    have gl : (gd O).length = m := by unfold gd; rw [List.length_map]; exact hO
    refine (out_put (s := 11) (k := (b : Nat)) (j := b) (ms := (natsD (gd O)).map .fz) (d := .int (i : Nat)) (yq_tk (i := 8) rfl) (yq_pk (i := 10) rfl) rfl (by rw [List.length_map, natsD_len, gl]; exact ixN_of (by omega))).trans ?_
    rw [nats_set, ← gd_set]
    rfl) ⟨o8, o10, rfl⟩
  rw [pks_len, Nat.zero_add] at h2
  subst h2
  exact ⟨o8', o10', (out_forK rfl).trans h1⟩
/-! ### ef1 looked at -/
abbrev othB : Ev → Out := dFor (gNm 13) (dG kRng [dG (kLen) [dPk 2]]) (dSeq (dSetF 14 (dLc (gNm 10) (dG kRng [dPk 4]) (dG (kPl oEq) [dIx (dPk 11) (dPk 10), dPk 13]) (dIx (dIx (dPk 2) (dPk 8)) (dPk 10)) [10]))
    (dIfS (dIf (dG (kPl oNe) [dPk 13, dPk 8]) (dIf (dG (kPl oNe) [dPk 14, dLst []]) (dG (kPl oLt) [dPk 12, dG (kPl oSub) [dG (kPl oSumA) [dPk 14], dG (kPl oMax) [dPk 14]]]) (dLit (.bool false))) (dLit (.bool false))) (dRet (dLit (.bool false))) (dNx)))
abbrev wE (sc : Option M) (rn : List (List Nat)) (od os : List Nat) (m : Nat) (x5 p6 x7 : Option M) (o8 : Option PyData) (x9 : Option M) (o10 : Option PyData) (x12 x13 x14 : Option M) (D : Dr) : Ev := lE sc rn od m x5 p6 x7 o8 x9 o10 (oM os) x12 x13 x14 none none none D
theorem bun_den (gr : GoodR rn m) (go : GoodO rn.length m os) {x5 p6 x7 x9 x12 x13 x14 : Option M} {o10 : Option PyData} {i k s : Nat} {f : Ev → Res} (hi : i < rn.length) (hs : ∀ g : Nat, YQ (dPk s) (wE sc rn od os m x5 p6 x7 (some (.int (i : Nat))) x9 (some (.int (g : Nat))) x12 x13 x14 D) (.own (.fz (.int (k : Nat))))) :
    YQ (dLc (gNm 10) (dG kRng [dPk 4]) (dG (kPl oEq) [dIx (dPk 11) (dPk 10), dPk s]) (dIx (dIx (dPk 2) (dPk 8)) (dPk 10)) [10]) (wE sc rn od os m x5 p6 x7 (some (.int (i : Nat))) x9 o10 x12 x13 x14 D) (.own (.lst ((natsD (bun rn os i k)).map .fz))) := by
  have m9 := gr.m9
  have hl := go.len
  have src : YQ (dG kRng [dPk 4]) (wE sc rn od os m x5 p6 x7 (some (.int (i : Nat))) x9 o10 x12 x13 x14 D) (.own (.fz (.list (rngD 0 os.length)))) := by
    rw [hl]
    exact yq_rngN (n := m) (yq_pk (i := 4) rfl) (by omega)
  exact pw_den (os := os) (i := i) (k := k) (e1 := fun d => wE sc rn od os m x5 p6 x7 (some (.int (i : Nat))) x9 (some d) x12 x13 x14 D) (env0 := wE sc rn od os m x5 p6 x7 (some (.int (i : Nat))) x9 none x12 x13 x14 D) src (fun _ => rfl) (fun g hg => yq_eqN (yq_ix (yq_vw (i := 11) rfl) (yq_pk (i := 10) rfl) (ix_vwN hg)) (hs g) rfl) (fun g hg => yq_wv gr (yq_pk (i := 2) rfl) (yq_pk (i := 8) rfl) (yq_pk (i := 10) rfl) hi (by omega)) (fun _ => rfl) (by cases o10 <;> rfl) (by cases o10 <;> rfl) (by cases o10 <;> rfl)
theorem oth_run (gr : GoodR rn m) (go : GoodO rn.length m os) {x5 p6 x7 x9 : Option M} {o10 : Option PyData} {x13 x14 : Option M} {i : Nat} (hi : i < rn.length)
    (h : ∀ k, k < rn.length → i ≠ k → ∀ G, (∀ g, g < m → os.getD g 0 = k → wv rn i g ≤ G) → pw rn os i k ≤ pw rn os i i + G) : ∃ x13' x14', othB (wE sc rn od os m x5 p6 x7 (some (.int (i : Nat))) x9 o10 (nM (pw rn os i i)) x13 x14 D) = .nx (wE sc rn od os m x5 p6 x7 (some (.int (i : Nat))) x9 o10 (nM (pw rn os i i)) x13' x14' D) := by
  have n6 := gr.n6
  have m9 := gr.m9
  have hl := go.len
  obtain ⟨e2, h1, x13', x14', h2⟩ := runF_inv (p := gNm 13) (b := (dSeq (dSetF 14 (dLc (gNm 10) (dG kRng [dPk 4]) (dG (kPl oEq) [dIx (dPk 11) (dPk 10), dPk 13]) (dIx (dIx (dPk 2) (dPk 8)) (dPk 10)) [10]))
    (dIfS (dIf (dG (kPl oNe) [dPk 13, dPk 8]) (dIf (dG (kPl oNe) [dPk 14, dLst []]) (dG (kPl oLt) [dPk 12, dG (kPl oSub) [dG (kPl oSumA) [dPk 14], dG (kPl oMax) [dPk 14]]]) (dLit (.bool false))) (dLit (.bool false))) (dRet (dLit (.bool false))) (dNx)))) (fun env => ∃ x13 x14, env = wE sc rn od os m x5 p6 x7 (some (.int (i : Nat))) x9 o10 (nM (pw rn os i i)) x13 x14 D) (ds := rngD 0 rn.length) (env := wE sc rn od os m x5 p6 x7 (some (.int (i : Nat))) x9 o10 (nM (pw rn os i i)) x13 x14 D) (fun d hd env hI => by
    obtain ⟨x13, x14, rfl⟩ := hI
    obtain ⟨k, hk, rfl⟩ := rngD_mem hd
    have lc := bun_den (sc := sc) (od := od) (D := D) (x5 := x5) (p6 := p6) (x7 := x7) (x9 := x9) (x12 := nM (pw rn os i i)) (x13 := nM k) (x14 := x14) (o10 := o10) (f := dPk 13) (s := 13) (k := k) gr go hi (fun g => yq_pk (i := 13) rfl)
    have s14 := yq_fr lc (frz_lst _)
    refine ⟨wE sc rn od os m x5 p6 x7 (some (.int (i : Nat))) x9 o10 (nM (pw rn os i i)) (nM k) x14 D, wE sc rn od os m x5 p6 x7 (some (.int (i : Nat))) x9 o10 (nM (pw rn os i i)) (nM k) (lM (bun rn os i k)) D, rfl, .inl ?_, nM k, lM (bun rn os i k), rfl⟩
    refine (out_seq (out_set s14 (by show 14 < 18; decide))).trans ?_
    have a1 := yq_neN (c := decide (k ≠ i)) (yq_pk (i := 13) (env := wE sc rn od os m x5 p6 x7 (some (.int (i : Nat))) x9 o10 (nM (pw rn os i i)) (nM k) (lM (bun rn os i k)) D) (d := .int (k : Nat)) rfl) (yq_pk (i := 8) (d := .int (i : Nat)) rfl) rfl
    have a2 := ne_nilV (l := bun rn os i k) (yq_pk (i := 14) (env := wE sc rn od os m x5 p6 x7 (some (.int (i : Nat))) x9 o10 (nM (pw rn os i i)) (nM k) (lM (bun rn os i k)) D) (d := .list (natsD (bun rn os i k))) rfl) rfl
    by_cases hik : k = i
    · rw [decide_eq_false (fun z => z hik)] at a1
      exact (out_ifF (yq_andT (b := false) (g := dIf (dG (kPl oNe) [dPk 14, dLst []]) (dG (kPl oLt) [dPk 12, dG (kPl oSub) [dG (kPl oSumA) [dPk 14], dG (kPl oMax) [dPk 14]]]) (dLit (.bool false))) a1 fun z => by cases z) rfl).trans rfl
    · by_cases hn : bun rn os i k = []
      · rw [decide_eq_true hn] at a2
        exact (out_ifF (yq_andT (b := false) a1 fun _ => yq_andT (b := false) (g := dG (kPl oLt) [dPk 12, dG (kPl oSub) [dG (kPl oSumA) [dPk 14], dG (kPl oMax) [dPk 14]]]) a2 fun z => by cases z) (by simp)).trans rfl
      · obtain ⟨G, hG1, hG2, hG3⟩ := max_nats hn
        have le := h k hk (fun z => hik z.symm) G fun g hg ho => hG2 _ (List.mem_map.mpr ⟨g, List.mem_filter.mpr ⟨List.mem_range.mpr (by omega), decide_eq_true ho⟩, rfl⟩)
        have gl := nat_le_sum hG1
        rw [bun_sum] at gl
        have hsum := sum_bun (yq_pk (i := 14) (env := wE sc rn od os m x5 p6 x7 (some (.int (i : Nat))) x9 o10 (nM (pw rn os i i)) (nM k) (lM (bun rn os i k)) D) (d := .list (natsD (bun rn os i k))) rfl) rfl
        rw [bun_sum] at hsum
        have hsub : YQ (dG (kPl oSub) [dG (kPl oSumA) [dPk 14], dG (kPl oMax) [dPk 14]]) (wE sc rn od os m x5 p6 x7 (some (.int (i : Nat))) x9 o10 (nM (pw rn os i i)) (nM k) (lM (bun rn os i k)) D) (.own (.fz (.int (((pw rn os i k : Nat) : Int) - ((G : Nat) : Int))))) := yq_p2 hsum (yq_maxV (yq_pk (i := 14) (d := .list (natsD (bun rn os i k))) rfl) rfl hG3) rfl
        have a3 := yq_lt (i := ((pw rn os i i : Nat) : Int)) (yq_pk (i := 12) (env := wE sc rn od os m x5 p6 x7 (some (.int (i : Nat))) x9 o10 (nM (pw rn os i i)) (nM k) (lM (bun rn os i k)) D) rfl) hsub
        rw [decide_eq_false (by omega)] at a3
        rw [decide_eq_false hn] at a2
        exact (out_ifF (yq_andT (b := false) a1 fun _ => yq_andT (a := true) (b := false) a2 fun _ => a3) (by simp)).trans rfl) ⟨x13, x14, rfl⟩
  subst h2
  exact ⟨x13', x14', (out_for (yq_rngN (yq_lenG (yq_pk (i := 2) rfl)) (by omega))).trans h1⟩
/-! ### the law -/
theorem ef1_run (gr : GoodR rn m) (go : GoodO rn.length m os) {x5 p6 x7 x9 : Option M} {o8 o10 : Option PyData}
    (h : ∀ i k, i < rn.length → k < rn.length → i ≠ k → ∀ G, (∀ g, g < m → os.getD g 0 = k → wv rn i g ≤ G) → pw rn os i k ≤ pw rn os i i + G) : ∃ o8' x12 x13 x14, dFor (gNm 8) (dG kRng [dG (kLen) [dPk 2]]) (dSeq (dSet 12 (dG (kPl oSumA) [dLc (gNm 10) (dG kRng [dPk 4]) (dG (kPl oEq) [dIx (dPk 11) (dPk 10), dPk 8]) (dIx (dIx (dPk 2) (dPk 8)) (dPk 10)) [10]])) othB) (wE sc rn od os m x5 p6 x7 o8 x9 o10 none none none D) = .nx (wE sc rn od os m x5 p6 x7 o8' x9 o10 x12 x13 x14 D) := by
  have n6 := gr.n6
  obtain ⟨e2, h1, o8', x12, x13, x14, h2⟩ := runF_inv (p := gNm 8) (b := (dSeq (dSet 12 (dG (kPl oSumA) [dLc (gNm 10) (dG kRng [dPk 4]) (dG (kPl oEq) [dIx (dPk 11) (dPk 10), dPk 8]) (dIx (dIx (dPk 2) (dPk 8)) (dPk 10)) [10]])) othB)) (fun env => ∃ o8 x12 x13 x14, env = wE sc rn od os m x5 p6 x7 o8 x9 o10 x12 x13 x14 D) (ds := rngD 0 rn.length) (env := wE sc rn od os m x5 p6 x7 o8 x9 o10 none none none D) (fun d hd env hI => by
    obtain ⟨o8, x12, x13, x14, rfl⟩ := hI
    obtain ⟨i, hi, rfl⟩ := rngD_mem hd
    have lc := bun_den (sc := sc) (od := od) (D := D) (x5 := x5) (p6 := p6) (x7 := x7) (x9 := x9) (x12 := x12) (x13 := x13) (x14 := x14) (o10 := o10) (f := dPk 8) (s := 8) (i := i) (k := i) gr go hi (fun g => yq_pk (i := 8) rfl)
    have s12 := sum_bun lc (frz_lst _)
    rw [bun_sum] at s12
    obtain ⟨x13', x14', hr⟩ := oth_run (sc := sc) (od := od) (D := D) (x5 := x5) (p6 := p6) (x7 := x7) (x9 := x9) (o10 := o10) (x13 := x13) (x14 := x14) gr go hi (fun k hk hik => h i k hi hk hik)
    exact ⟨wE sc rn od os m x5 p6 x7 (some (.int (i : Nat))) x9 o10 x12 x13 x14 D, _, rfl, .inl ((out_seq (out_set s12 (by show 12 < 18; decide))).trans hr), _, _, _, _, rfl⟩) ⟨o8, none, none, none, rfl⟩
  subst h2
  exact ⟨o8', x12, x13, x14, (out_for (yq_rngN (yq_lenG (yq_pk (i := 2) rfl)) (by omega))).trans h1⟩
theorem small_run (gr : GoodR rn m) {x5 p6 x7 x9 x12 x13 x14 : Option M} {o8 o10 : Option PyData} : ∃ o10', dFor (gNm 10) (dG kRng [dPk 4]) (dSet 15 (dFr (dG kMul [dPk 15, dG (kLen) [dPk 2]]))) (lE sc rn od m x5 p6 x7 o8 x9 o10 (oM os) x12 x13 x14 (nM (rn.length ^ 0)) none none D) = .nx (lE sc rn od m x5 p6 x7 o8 x9 o10' (oM os) x12 x13 x14 (nM (rn.length ^ m)) none none D) := by
  have n6 := gr.n6
  have n1 := gr.n1
  have m9 := gr.m9
  obtain ⟨e2, h1, o10', h2⟩ := runF_ix (p := gNm 10) (b := dSet 15 (dFr (dG kMul [dPk 15, dG (kLen) [dPk 2]]))) (fun k env => ∃ o10, env = lE sc rn od m x5 p6 x7 o8 x9 o10 (oM os) x12 x13 x14 (nM (rn.length ^ k)) none none D) (ds := rngD 0 m) (k := 0) (env := lE sc rn od m x5 p6 x7 o8 x9 o10 (oM os) x12 x13 x14 (nM (rn.length ^ 0)) none none D) (fun k d hd env hI => by
    obtain ⟨o10, rfl⟩ := hI
    rw [Nat.zero_add]
    have hk : k < m := by
      have := (List.getElem?_eq_some_iff.mp hd).1
      rwa [rngD_len] at this
    have hp : rn.length ^ k ≤ 6 ^ 10 := Nat.le_trans (Nat.pow_le_pow_left n6 k) (Nat.pow_le_pow_right (by decide) (by omega))
    have y := yq_mulN (yq_pk (i := 15) (env := lE sc rn od m x5 p6 x7 o8 x9 (some d) (oM os) x12 x13 x14 (nM (rn.length ^ k)) none none D) rfl) (yq_lenG (yq_pk (i := 2) rfl)) (Nat.lt_of_le_of_lt hp (by decide)) (Nat.lt_of_le_of_lt n6 (by decide))
    rw [← Nat.pow_succ] at y
    exact ⟨lE sc rn od m x5 p6 x7 o8 x9 (some d) (oM os) x12 x13 x14 (nM (rn.length ^ k)) none none D, _, rfl, .inl (out_set (yq_fr y rfl) (by show 15 < 18; decide)), some d, rfl⟩) ⟨o10, rfl⟩
  rw [rngD_len, Nat.zero_add] at h2
  subst h2
  exact ⟨o10', (out_for (yq_rngN (n := m) (yq_pk (i := 4) rfl) (by omega))).trans h1⟩
end
theorem sh_prD (P : List (Nat × Nat)) : Sh 2 (.tuple (prD P)) := sh_tup (k := 1) fun x hx => by
  obtain ⟨p, _, rfl⟩ := List.mem_map.mp hx
  refine sh_tup (k := 0) fun y hy => ?_
  simp only [List.mem_cons, List.not_mem_nil, or_false] at hy
  rcases hy with rfl | rfl
  · exact sh_int
  · exact sh_int
theorem law_true0 (ns : List Int) : ∃ e, d_law (startE 18 [.fz (scriptD ns)]) = .ret (.fz (.bool true)) e := by
  obtain ⟨D0, ok0, hd⟩ := draw_den ns
  have key : RO 1 d_law (startE 18 [.fz (scriptD ns)]) (· = .fz (.bool true)) := by
    have e0 : startE 18 [.fz (scriptD ns)] = [some (.fz (scriptD ns)), none, none, none, none, none, none, none, none, none, none, none, none, none, none, none, none, none] := rfl
    rw [e0]
    unfold d_law
    have s1 : dSet 1 (dCall 3 d__law_draw [dPk 0]) [some (.fz (scriptD ns)), none, none, none, none, none, none, none, none, none, none, none, none, none, none, none, none, none] = .nx [some (.fz (scriptD ns)), some D0.m, none, none, none, none, none, none, none, none, none, none, none, none, none, none, none, none] :=
      out_set (yq_call (y1 (yq_pk rfl)) rfl rfl hd (fun z => by cases z)) (by show 1 < 18; decide)
    generalize some (M.fz (scriptD ns)) = sc at s1 ⊢
    refine ro_st s1 ?_
    refine do_set (e := fun D => [sc, some D.m, none, none, none, none, none, none, none, none, none, none, none, none, none, none, none, none]) (P := fun mm => ∃ m rn, GoodR rn m ∧ mm = .fz (gD rn)) ok0
      (dv_ioE (s := 1) (gs := [dLit (.int 5), dLit (.int 8), dLit (.int 9)]) rfl (fun _ => rfl) (fun _ _ => rfl) (dvs_is (dv_q fun _ _ => yq_lit) (dvs_is (dv_q fun _ _ => yq_lit) (dvs_is1 (dv_q fun _ _ => yq_lit)))) fun ms h D ok => ?_) (fun _ => by show 2 < 18; decide) ?_
    · subst h
      exact game_denN (T := 9) (by decide) (by decide) ok
    rintro _ D1 ok1 ⟨m, rn, gr, rfl⟩
    have n1 := gr.n1
    have n6 := gr.n6
    have m1 := gr.m1
    have m9 := gr.m9
    show RO 1 _ [sc, some D1.m, gM rn, none, none, none, none, none, none, none, none, none, none, none, none, none, none, none] _
    refine do_set (e := fun D => [sc, some D.m, gM rn, none, none, none, none, none, none, none, none, none, none, none, none, none, none, none]) (P := fun mm => ∃ od : List Nat, od.Perm (List.range rn.length) ∧ mm = .fz (.tuple (natsD od))) ok1
      (dv_ioE (s := 1) (gs := [dG (kLen) [dPk 2]]) rfl (fun _ => rfl) (fun _ _ => rfl) (dvs_is1 (dv_q fun _ _ => yq_lenG (yq_pk (i := 2) rfl))) fun ms h D ok => ?_) (fun _ => by show 3 < 18; decide) ?_
    · subst h
      exact order_den n1 n6 ok
    rintro _ D ok2 ⟨od, hp, rfl⟩
    have ol : od.length = rn.length := by rw [hp.length_eq, List.length_range]
    show RO 1 _ [sc, some D.m, gM rn, tM od, none, none, none, none, none, none, none, none, none, none, none, none, none, none] _
    refine ro_st (env2 := [sc, some D.m, gM rn, tM od, nM m, none, none, none, none, none, none, none, none, none, none, none, none, none]) (out_set (yq_len (n := m) (yq_ix (i := ((0 : Nat) : Int)) (yq_pk (i := 2) rfl) yq_lit (ix_gD (i := 0) (by omega))) (by
      simp only [lenV, natsD_len]
      rw [row_len gr (by omega)])) (by show 4 < 18; decide)) ?_
    have lcT := yq_lc0 (p := gNm 10) (src := dG kRng [dPk 4]) (f := dLit (.bool true)) (vs := [10]) (env := [sc, some D.m, gM rn, tM od, nM m, none, none, none, none, none, none, none, none, none, none, none, none, none]) [sc, some D.m, gM rn, tM od, nM m, none, none, none, none, none, none, none, none, none, none, none, none, none] (fun _ => .fz (.bool true)) (yq_rngN (n := m) (yq_pk (i := 4) rfl) (by omega)) (fun d hd => ⟨[sc, some D.m, gM rn, tM od, nM m, none, none, none, none, none, some (.fz d), none, none, none, none, none, none, none], rfl, yq_lit, rfl⟩)
    have eT : (rngD 0 m).map (fun _ => (.fz (.bool true) : M)) = (oB (pkO rn (rrT od m) m 0)).map .fz := by
      unfold oB pkO
      rw [List.map_replicate, List.map_replicate, List.map_const', rngD_len]
      rfl
    rw [eT] at lcT
    refine ro_st (env2 := lE sc rn od m (fB (pkO rn (rrT od m) m 0)) (pM (pks rn (rrT od m) m 0)) none none none none none none none none none none none D) (out_par (ys_cons lcT (ys_cons (yq_Fn ys_nil rfl : YQ (dLst []) _ (.own (.lst []))) ys_nil)) (by show 5 < 18; decide) (by show 6 < 18; decide)) ?_
    obtain ⟨x7, o8, x9, o10, hr1⟩ := trn_run (sc := sc) (D := D) gr hp
    refine ro_st hr1 ?_
    have lcZ := yq_lc0 (p := gNm 10) (src := dG kRng [dPk 4]) (f := dLit (.int 0)) (vs := [10]) (env := lE sc rn od m (fB (pkO rn (rrT od m) m m)) (pM (pks rn (rrT od m) m m)) x7 o8 x9 o10 none none none none none none none D) (lE sc rn od m (fB (pkO rn (rrT od m) m m)) (pM (pks rn (rrT od m) m m)) x7 o8 x9 none none none none none none none none D) (fun _ => .fz (.int 0)) (yq_rngN (n := m) (yq_pk (i := 4) rfl) (by omega)) (fun d hd => ⟨lE sc rn od m (fB (pkO rn (rrT od m) m m)) (pM (pks rn (rrT od m) m m)) x7 o8 x9 (some d) none none none none none none none D, rfl, yq_lit, rfl⟩) (by cases o10 <;> rfl) (by cases o10 <;> rfl) (by cases o10 <;> rfl)
    have eZ : (rngD 0 m).map (fun _ => (.fz (.int 0) : M)) = (natsD (gd (pkO rn (rrT od m) m 0))).map .fz := by
      rw [gd_pk0]
      unfold natsD
      rw [List.map_replicate, List.map_replicate, List.map_const', rngD_len]
      rfl
    rw [eZ] at lcZ
    refine ro_st (env2 := lE sc rn od m (fB (pkO rn (rrT od m) m m)) (pM (pks rn (rrT od m) m m)) x7 o8 x9 o10 (oM (gd (pkO rn (rrT od m) m 0))) none none none none none none D) (out_set lcZ (by show 11 < 18; decide)) ?_
    generalize fB (pkO rn (rrT od m) m m) = x5
    obtain ⟨o8b, o10b, hr2⟩ := own_run (sc := sc) (D := D) (od := od) (x5 := x5) (x7 := x7) (x9 := x9) (o8 := o8) (o10 := o10) gr
    refine ro_st hr2 ?_
    have gt := rr_good (m := m) hp n1
    have go := pkL_good (rows := rn) (m := m) gt.lt (by omega) gt.len
    have ef : ∀ i k, i < rn.length → k < rn.length → i ≠ k → ∀ G, (∀ g, g < m → (pkL rn (rrT od m) m).getD g 0 = k → wv rn i g ≤ G) → pw rn (pkL rn (rrT od m) m) i k ≤ pw rn (pkL rn (rrT od m) m) i i + G := fun i k hi hk hik G hG => rr_ef1 gr hp hi hk hik hG
    refine ro_skip (yq_orT (a := false) (b := false) (yq_ne_sh (yq_call2 (yq_pk (i := 2) rfl) (yq_pk (i := 3) rfl) (picks_eq gr hp)) (yq_tupOf (yq_pk (i := 6) (d := .list (prD (pks rn (rrT od m) m m))) rfl) rfl) (sh_prD _) (by decide)) fun _ => yq_ne_sh (yq_call2 (yq_pk (i := 2) rfl) (yq_pk (i := 3) rfl) (robin_eq gr hp)) (yq_tupOf (yq_vw (i := 11) rfl) (seqv_vw _)) (sh_nats (k := 0) _) (by decide)) ?_
    generalize some (M.fz (.list (prD (pks rn (rrT od m) m m)))) = p6
    generalize pkL rn (rrT od m) m = os at *
    obtain ⟨o8c, x12, x13, x14, hr3⟩ := ef1_run (sc := sc) (od := od) (D := D) (x5 := x5) (p6 := p6) (x7 := x7) (x9 := x9) (o8 := o8b) (o10 := o10b) gr go ef
    refine ro_st hr3 ?_
    refine ro_st (env2 := lE sc rn od m x5 p6 x7 o8c x9 o10b (oM os) x12 x13 x14 (nM (rn.length ^ 0)) none none D) (out_set (m := .fz (.int ((rn.length ^ 0 : Nat) : Int))) yq_lit (by show 15 < 18; decide)) ?_
    obtain ⟨o10c, hr4⟩ := small_run (sc := sc) (od := od) (os := os) (D := D) (x5 := x5) (p6 := p6) (x7 := x7) (x9 := x9) (x12 := x12) (x13 := x13) (x14 := x14) (o8 := o8c) (o10 := o10b) gr
    refine ro_st hr4 ?_
    have tS : YQ (dIf (dG (kPl oLe) [dPk 15, dLit (.int 60000)]) (dG (kIs true) [dCall 3 d_holds [dPk 2, dG (kTupOf) [dPk 11], dLit (.str "ef1")], dLit (.bool true)]) (dLit (.bool false))) (lE sc rn od m x5 p6 x7 o8c x9 o10c (oM os) x12 x13 x14 (nM (rn.length ^ m)) none none D) (.own (.fz (.bool false))) := by
      have t1 := yq_le (j := 60000) (yq_pk (i := 15) (env := lE sc rn od m x5 p6 x7 o8c x9 o10c (oM os) x12 x13 x14 (nM (rn.length ^ m)) none none D) (d := .int ((rn.length ^ m : Nat) : Int)) rfl) yq_lit
      by_cases hs : rn.length ^ m ≤ 60000
      · rw [decide_eq_true (by omega)] at t1
        exact yq_andT (a := true) (b := false) t1 fun _ => yq_isnt (a := true) (b := true) (yq_call3 (yq_pk (i := 2) rfl) (yq_tupOf (yq_vw (i := 11) rfl) (seqv_vw _)) yq_lit (holds_eq gr go hs fun i k hi hk hik => ef i k hi hk hik _ fun g hg h => bG_ge (by rw [go.len]; exact hg) h)) yq_lit
      · rw [decide_eq_false (by omega)] at t1
        exact yq_andT (a := false) (b := false) (g := dG (kIs true) [dCall 3 d_holds [dPk 2, dG (kTupOf) [dPk 11], dLit (.str "ef1")], dLit (.bool true)]) t1 fun z => by cases z
    refine ro_skip tS ?_
    have src : YQ (dIt (dLst [dTup [dLit .none, dTk 3], dTup [dTk 2, dLit .none], dTup [dTk 2, dFr (dG kAdd [dPk 3, dTup [dLit (.int 0)]])], dTup [dTk 2, dFr (dF Ql.n (kSl1 false) [dPk 3, dOp oNeg [dLit (.int 1)]])], dTup [dTk 2, dFr (dG (kLstOf) [dPk 3])], dTup [dTk 2, dFr (dG kAdd [dG (kTupOf) [dLc (gNm 8) (dIt (dTk 3)) (dLit (.bool true)) (dLit (.int 0)) [8]], dTup [dLit (.int 0)]])], dTup [dTup [], dTup []], dTup [dTk 2, dFr (dG kAdd [dF Ql.n (kSl1 false) [dPk 3, dOp oNeg [dLit (.int 1)]], dTup [dG (kLen) [dPk 2]]])]])) (lE sc rn od m x5 p6 x7 o8c x9 o10c (oM os) x12 x13 x14 (nM (rn.length ^ m)) none none D) (.own (.fz (.list (badL rn od)))) := by
      have w1 : ∀ {env : Ev} {d : PyData} {f : Ev → Res}, YQ f env (.own (.fz d)) → YQ (dTup [f]) env (.own (.fz (.tuple [d]))) := fun {env d f} h => yq_Fn (ys_cons h ys_nil) rfl
      have w2 : ∀ {env : Ev} {a b : PyData} {f h : Ev → Res}, YQ f env (.own (.fz a)) → YQ h env (.own (.fz b)) → YQ (dTup [f, h]) env (.own (.fz (.tuple [a, b]))) := fun {env a b f h} h1 h2 => yq_Fn (ys_cons h1 (ys_cons h2 ys_nil)) rfl
      have o0 : YQ (dPk 3) (lE sc rn od m x5 p6 x7 o8c x9 o10c (oM os) x12 x13 x14 (nM (rn.length ^ m)) none none D) (.own (.fz (.tuple (natsD od)))) := yq_pk (i := 3) rfl
      have o3 : YQ (dTk 3) (lE sc rn od m x5 p6 x7 o8c x9 o10c (oM os) x12 x13 x14 (nM (rn.length ^ m)) none none D) (.own (.fz (.tuple (natsD od)))) := yq_tk (i := 3) rfl
      have g2 : YQ (dTk 2) (lE sc rn od m x5 p6 x7 o8c x9 o10c (oM os) x12 x13 x14 (nM (rn.length ^ m)) none none D) (.own (.fz (gD rn))) := yq_tk (i := 2) rfl
      have cut : YQ (dF Ql.n (kSl1 false) [dPk 3, dOp oNeg [dLit (.int 1)]]) (lE sc rn od m x5 p6 x7 o8c x9 o10c (oM os) x12 x13 x14 (nM (rn.length ^ m)) none none D) (.own (.fz (.tuple (cutO od)))) := yq_Fn (ys_cons o0 (ys_cons (yq_neg yq_lit) ys_nil)) rfl
      have cl : (cutO od).length ≤ rn.length := Nat.le_trans cut_le (by rw [natsD_len]; omega)
      have lcz := yq_lc0 (p := gNm 8) (src := dIt (dTk 3)) (f := dLit (.int 0)) (vs := [8]) (env := lE sc rn od m x5 p6 x7 o8c x9 o10c (oM os) x12 x13 x14 (nM (rn.length ^ m)) none none D) (lE sc rn od m x5 p6 x7 none x9 o10c (oM os) x12 x13 x14 (nM (rn.length ^ m)) none none D) (fun _ => .fz (.int 0)) (yq_it (m := .fz (.tuple (natsD od))) (yq_tk (i := 3) rfl) rfl rfl) (fun d hd => ⟨lE sc rn od m x5 p6 x7 (some d) x9 o10c (oM os) x12 x13 x14 (nM (rn.length ^ m)) none none D, rfl, yq_lit, rfl⟩) (by cases o8c <;> rfl) (by cases o8c <;> rfl) (by cases o8c <;> rfl)
      have ez : (natsD od).map (fun _ => (.fz (.int 0) : M)) = (natsD (List.replicate od.length 0)).map .fz := by
        unfold natsD
        rw [List.map_const', List.length_map, List.map_replicate, List.map_replicate]
        rfl
      rw [ez] at lcz
      refine yq_it (m := .lst ((badL rn od).map .fz)) (yqs_lst (ds := badL rn od) ?_) (frz_lst _) rfl
      exact ys_cons (w2 yq_lit o3) (ys_cons (w2 g2 yq_lit) (ys_cons (w2 g2 (yq_fr (yq_addT o0 (w1 yq_lit) (by rw [natsD_len]; unfold SZ; simp; omega)) rfl)) (ys_cons (w2 g2 (yq_fr cut rfl)) (ys_cons (w2 g2 (yq_fr (m := .lst ((natsD od).map .fz)) (yq_G (b := true) (ys_cons o0 ys_nil) rfl) (frz_lst _))) (ys_cons (w2 g2 (yq_fr (yq_addT (yq_tupOf lcz (seqv_lst _)) (w1 yq_lit) (by rw [natsD_len]; unfold SZ; simp; omega)) rfl)) (ys_cons (w2 (yq_Fn ys_nil rfl) (yq_Fn ys_nil rfl)) (ys_cons (w2 g2 (yq_fr (yq_addT cut (w1 (yq_lenG (yq_pk (i := 2) rfl))) (by unfold SZ; simp; omega)) rfl)) ys_nil)))))))
    have hb := badL_x gr hp
    obtain ⟨e5, k1, x16, x17, k2⟩ := runF_inv (p := gTp [gNm 16, gNm 17]) (b := dIfS (dIf (dIf (dTru (dCall 3 d__law_raises [dLit (.int 0), dPk 16, dPk 17])) (dLit (.bool false)) (dLit (.bool true))) (dLit (.bool true)) (dIf (dTru (dCall 3 d__law_raises [dLit (.int 1), dPk 16, dPk 17])) (dLit (.bool false)) (dLit (.bool true)))) (dRet (dLit (.bool false))) (dNx)) (fun env => ∃ x16 x17, env = lE sc rn od m x5 p6 x7 o8c x9 o10c (oM os) x12 x13 x14 (nM (rn.length ^ m)) x16 x17 D) (ds := badL rn od) (env := lE sc rn od m x5 p6 x7 o8c x9 o10c (oM os) x12 x13 x14 (nM (rn.length ^ m)) none none D) (fun d hd env hI => by
      obtain ⟨x16, x17, rfl⟩ := hI
      obtain ⟨one, two, rfl, hx⟩ := hb d hd
      exact ⟨lE sc rn od m x5 p6 x7 o8c x9 o10c (oM os) x12 x13 x14 (nM (rn.length ^ m)) (some (.fz one)) (some (.fz two)) D, lE sc rn od m x5 p6 x7 o8c x9 o10c (oM os) x12 x13 x14 (nM (rn.length ^ m)) (some (.fz one)) (some (.fz two)) D, rfl, .inl ((out_ifF (yq_orT (a := false) (b := false) (yq_not (c := true) (yq_tru (yq_call3 yq_lit (yq_pk (i := 16) rfl) (yq_pk (i := 17) rfl) (raises_eq (k := 0) hx)) rfl)) fun _ => yq_not (c := true) (yq_tru (yq_call3 yq_lit (yq_pk (i := 16) rfl) (yq_pk (i := 17) rfl) (raises_eq (k := 1) hx)) rfl)) rfl).trans rfl), _, _, rfl⟩) ⟨none, none, rfl⟩
    subst k2
    refine ro_st ((out_for src).trans k1) ?_
    exact do_ret (e := fun D => lE sc rn od m x5 p6 x7 o8c x9 o10c (oM os) x12 x13 x14 (nM (rn.length ^ m)) x16 x17 D) ok2 (dv_own (m := .fz (.bool true)) (fun _ _ => yq_lit) rfl) fun _ => rfl
  obtain ⟨mm, D2, e2, _, rfl, h, _⟩ := key
  exact ⟨e2, h⟩
end Q

set_option Elab.async false
set_option linter.all false
set_option maxRecDepth 100000
set_option maxHeartbeats 0
namespace Q
open PySem PySem.Spec PyProof.Rows L2
theorem law_true (ns : List Int) (hl : ns.length ≤ 63) (hb : ∀ z ∈ ns, Builtin.Int.intBits z ≤ 1048576) : ∃ e, d_law (startE N_law.length [.fz (scriptD ns)]) = .ret (.fz (.bool true)) e := law_true0 ns
end Q
namespace Q
open PySem PySem.Spec PyProof.Rows L2
abbrev RR : PySem.W.OpenRow := PySem.W.OpenLaw.row PySem.Challenge.rw_fairloaves_k10_whole_turns
def exB (K : PySem.W.Frag) : Bool := noInts K && (consB K consts && tabOk K "FINDERS" ks_FINDERS)
abbrev tabsQ : List He.Tab := [(fun K => tadr K "FINDERS", ["ef", "efx", "ef1", "prop", "prop1", "mms", "pmms", "gmms", "eq", "eqx", "eq1", "fpo", "ceei"])]
abbrev hkQ : PySem.W.Hook := He.hookX 4 facts fns tabsQ [] exB
def obQ (s : PySem.W.SharedT) : He.AlX := He.obsX 4 facts fns tabsQ [] exB (HandSHeadRun.getT s)
theorem obQ_eq (s : PySem.W.SharedT) : obQ s = hkQ.obs s.abs := He.obsX_eq (HandSHeadRun.getT_eq s)
def loose0 : List Str := ["Fault", "Malformed", "Refused", "is_whole", "MOST_PEOPLE", "MOST_GOODS", "MOST_WISH", "MOST_SHARES", "is_wishes", "is_game", "check_game", "fits_owners", "check_share", "parts_of", "worth", "worth_table", "own_worths", "check_few", "loads_of", "most_even", "is_order", "favourite", "round_robin", "round_picks"]
def loose1 : List Str := ["WORDS", "BY_ALL_SHARES", "pairs_of", "groups_with", "joined", "envy_lacks", "find_ef", "find_efx", "find_ef1", "find_prop", "find_prop1", "find_mms", "find_pmms", "find_gmms", "find_eq", "find_eqx", "find_eq1", "nash_key", "is_better", "share_table", "find_better", "exchange_rows", "rings_of", "find_fpo"]
def loose2 : List Str := ["ring_wins", "find_ceei", "FINDERS", "found_objection", "check_word", "objection", "holds", "_law_draw", "_law_take", "_law_says", "_law_game", "_law_share", "_law_order", "_law_raises"]
abbrev looseQ : List Str := loose0 ++ loose1 ++ loose2
def ftQ (b : Bool) (f : String → Bool) : String → Bool := fun s => if s = "special-get-raises" then b else f s
theorem runQ (w : World) : HandSHeadRun.RunEq RR (PySem.W.view RR.prog [69]) hkQ obQ 4000 looseQ w := by
  obtain ⟨dr, p⟩ := w
  have key : ∀ (b : Bool) (p : Params), HandSHeadRun.RunEq RR (PySem.W.view RR.prog [69]) hkQ obQ 4000 looseQ ⟨dr, { p with followText := ftQ b p.followText }⟩ := fun b p => by
    cases b
    · intro os
      kernel_rfl
    · intro os
      kernel_rfl
  have e1 : ftQ (p.followText "special-get-raises") p.followText = p.followText := funext fun s => by
    unfold ftQ
    split
    · rename_i h
      rw [h]
    · rfl
  have z := key (p.followText "special-get-raises") p
  rw [e1] at z
  exact z
end Q
open PySem PySem.W PySem.Calls PyProof.Rows
theorem PySem.Challenge.cw_fairloaves_k10_whole_turns_holds : PySem.Challenge.rw_fairloaves_k10_whole_turns.Holds := by
  w_on; o_law
  refine HandSHeadRun.head_any (r := OpenLaw.row PySem.Challenge.rw_fairloaves_k10_whole_turns) (q := view (OpenLaw.row PySem.Challenge.rw_fairloaves_k10_whole_turns).prog [69]) (H := Q.hkQ) (ob := Q.obQ) (M := 4000) (loose := Q.looseQ) (d := HandSHeadRun.topDef (OpenLaw.row PySem.Challenge.rw_fairloaves_k10_whole_turns).prog 69) (kwd := []) Q.obQ_eq
    (by kernel_rfl) (fun s => by kernel_rfl) Q.runQ (by kernel_rfl) (by kernel_rfl) (by kernel_rfl) (by rfl) (by first | assumption | decide +kernel) (by decide +kernel) ⟨rfl, rfl, rfl, rfl, rfl, by decide +kernel⟩ ?hw ?hc
  case hw => w_witness2
  case hc =>
    refine Q.walk_Q (l := PySem.Challenge.rw_fairloaves_k10_whole_turns) (n := 63) (k := Q.LV) (x := "script") rfl (by decide) (by kernel_rfl) ⟨rfl, by decide, by decide⟩ fun w mg fa h Y G hmg0 => ?_
    have hmg : mg ("law" : PySem.Str) = some (.ref fa) := by
      have e : (HandSHeadRun.topDef (OpenLaw.row PySem.Challenge.rw_fairloaves_k10_whole_turns).prog 69).name = ("law" : PySem.Str) := by kernel_rfl
      rw [← e]
      exact hmg0
    exact Q.law_FT (l := PySem.Challenge.rw_fairloaves_k10_whole_turns) (CC := Q.CC w) Y G hmg (fun K z t => ⟨(Bool.and_eq_true_iff.mp z).1, (Bool.and_eq_true_iff.mp (Bool.and_eq_true_iff.mp z).2).1, (Bool.and_eq_true_iff.mp (Bool.and_eq_true_iff.mp z).2).2, t.tab 0⟩) (fun K KX c cc base => Q.f_law KX G c cc) Q.law_true

